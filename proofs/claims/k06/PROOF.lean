import PyProof.Rows.All
import Wide.All
import OpenK.AllK
import Wide.FinOn
import HandS.ForMost
import HandS.ForExc
import HandS.TupAny
import HandS.Deep
import HandS.IsInst
import HandS.ExcIs
import HandS.SortInts
import HandS.SetFor
import HandS.Lambda
import HandS.EndTab
import HandS.HeadHook4
import HandS.HeadWalk
import HandS.Head2
import HandS.Wide
import HandS.TryMany
import HandS.SuiteRaise
import HandS.TryOnly
import HandS.TupLe
import HandS.Zip
import HandS.Walk
import PySem.Challenge.RW_asklock_k06_whole_the_least_to_break
set_option Elab.async false
set_option linter.all false
set_option maxRecDepth 100000
set_option maxHeartbeats 4000000
namespace AL
open PySem PySem.Spec PyProof.Rows L2

/-- a def of the text keeps its promise -/
structure OkF (P : Program) (w : World) (K : PySem.W.Frag) (mg : Str → Option Value) (base : Heap) (k : Nat) (f : Addr) (ps : List Str) (sp : Sp) : Prop where
  ex : ∃ fd, FnOk P w K mg base (L2.CX P w) k f fd ps sp ∧ Binds K fd ps []
  kp : PySem.W.keepIn K (.ref f) = true

/-- what the text says of a def that stands at f -/
def DefAt (K : PySem.W.Frag) (x qual : Str) (st : Stmt) (f : Addr) : Prop := ∃ fd, FunD K x qual (defArgs st) (defBody st) (defScope st) [] [] f fd

/-- an exception that leaves a callee leaves this def -/
theorem pE {P : Program} {w : World} {K : PySem.W.Frag} {mg : Str → Option Value} {base : Heap} {N : List Str} {qual : Str} {scope : Scope} {f : Addr} {cdv : Value} {A : Around} {outer : List Env} {s : Shared} {H : Hp} {E : XK} :
    Passes (L2.CX P w) (cxOf (L2.CX P w) P w K mg base N qual scope f cdv A outer s H E) E :=
  passes_call (takes_of rfl rfl rfl rfl) fun _ _ _ _ h => h
theorem pOwn {P : Program} {w : World} {K : PySem.W.Frag} {mg : Str → Option Value} {base : Heap} {N : List Str} {qual : Str} {scope : Scope} {f : Addr} {cdv : Value} {A : Around} {outer : List Env} {s : Shared} {H : Hp} {E : XK} :
    PassesOwn (model P w) (cxOf (L2.CX P w) P w K mg base N qual scope f cdv A outer s H E).A (cxOf (L2.CX P w) P w K mg base N qual scope f cdv A outer s H E).env (cxOf (L2.CX P w) P w K mg base N qual scope f cdv A outer s H E).xe :=
  passes_of rfl

/-- from the text: a def's promise -/
theorem okF {P : Program} {w : World} {K : PySem.W.Frag} {mg : Str → Option Value} {base : Heap} {x qual : Str} {st : Stmt} {f : Addr} {N ps : List Str} {k : Nat} {sp : Sp} (F : DefAt K x qual st f) (S : FnScope N ps (defScope st))
    (hbi : ∀ (kV doc pm : Value) (an : Option Addr) (cdv ct : Value) (us : List Value), us.length = ps.length → bindArgs (PySem.W.fnOf x qual (defArgs st) (defBody st) (defScope st) .none kV doc pm an cdv ct) ⟨us, []⟩ = pure (ps.zip us))
    (len : ∀ vs H Q E, sp vs H Q E → vs.length = ps.length)
    (hbody : ∀ (cdv : Value) (A : Around) (outer : List Env) (s : Shared) (H : Hp) (vs : List V) (Q : VK) (E : XK), Room k (A.deeper (envOfC qual (defScope st) s.heap.objs.size f cdv)) → sp vs H Q E →
      ∃ t, PSs (cxOf (L2.CX P w) P w K mg base N qual (defScope st) f cdv A outer s H E) (defBody st) t ∧ t { nx := fun _ H' => Q .non H', rt := Q } (start N vs) H) : OkF P w K mg base (k + 1) f ps sp := by
  obtain ⟨fd, F⟩ := F
  exact ⟨⟨fd, F.ok S len hbody, F.bindsN hbi⟩, F.kp⟩

/-- an own exception class over ValueError, without a method of its own -/
structure ExT (K : PySem.W.Frag) (mg : Str → Option Value) (x : Str) : Prop where
  g : mg x = some (.ref (He.ga K x))
  ex : PySem.W.excIn K (He.ga K x) He.veBase "ValueError.__new__" = true
  k : PySem.W.keepIn K (.ref (He.ga K x)) = true
  b : PySem.W.subIn K (.ref (He.ga K x)) (.type "BaseException") = some true
  t : PySem.W.typeIn K (.ref (He.ga K x)) = some (.type "type")

/-! ### the layer's rules, the written part named -/
section
variable {X : Cx} {K : PySem.W.Frag}
theorem k_fld {e : Expr} {f : Str} {pos : Pos} {ta : TE} (hK : X.K = K) (he : PE X e ta) (hb : attributeBase e f X.env (eval e X.env) = eval e X.env) : PE X (.Attribute e f pos) (tFld K ta f) := hK ▸ pe_fld he hb
theorem kp_fld {o value : Expr} {f : Str} {pos pos' : Pos} {ta tv : TE} (hK : X.K = K) (ha : PE X o ta) (hv : PE X value tv) (hs : swapsWith value (some (.Attribute o f pos')) pos.line X.env = pure false) : PS X (.Assign [.Attribute o f pos'] value pos) (sFld K ta tv f) := hK ▸ ps_fld ha hv hs
theorem k_ixl (hK : X.K = K) : IxR X (rIxL K) := hK ▸ ix_list
theorem k_ixt (hK : X.K = K) : IxR X (rIxT K) := hK ▸ ix_tup
def rLenQ (K : PySem.W.Frag) : List V → Hp → VK → Prop := fun xs H Q => ∃ p ys, xs = [.ref p] ∧ (SqL K H p ys ∨ SqT K H p ys) ∧ Q (.int ys.length) H
theorem k_len (hK : X.K = K) : CallR X (.builtin "len") (rLenQ K) := hK ▸ call_len_seq
theorem k_eqD (hK : X.K = K) (hu : X.A.units + 64 < cLine) : OpR X (compareOp .Eq) (rEqD K) := hK ▸ op_eqD hu
theorem k_neD (hK : X.K = K) (hu : X.A.units + 64 < cLine) : OpR X (compareOp .NotEq) (rNeD K) := hK ▸ op_neD hu
theorem k_inS (hK : X.K = K) : OpR X (compareOp .In) (rIn K false) := hK ▸ op_in_seq
theorem k_notInS (hK : X.K = K) : OpR X (compareOp .NotIn) (rIn K true) := hK ▸ op_notIn_seq
theorem k_inD (hK : X.K = K) (hu : X.A.units + 65 < cLine) : OpR X (compareOp .In) (rInD K) := hK ▸ op_inD hu
theorem k_notInD (hK : X.K = K) (hu : X.A.units + 65 < cLine) : OpR X (compareOp .NotIn) (rNotInD K) := hK ▸ op_notInD hu
theorem k_catA (hK : X.K = K) : OpR X (binaryOp .Add) (rCatA K) := hK ▸ op_catA
theorem k_slL (hK : X.K = K) : SlR X (rSlL K) := hK ▸ sl_list
theorem k_slT (hK : X.K = K) : SlR X (rSlA K) := hK ▸ sl_tupA
def rListQ (K : PySem.W.Frag) : List V → Hp → VK → Prop := fun xs H Q => ∃ p ys, xs = [.ref p] ∧ (SqL K H p ys ∨ SqT K H p ys) ∧ ∀ l, H l = none → Q (.ref l) (upd H l (.lst ys))
theorem k_listOf (hK : X.K = K) : CallR X (.type "list") (rListQ K) := hK ▸ call_list_of
def rTupQ (K : PySem.W.Frag) : List V → Hp → VK → Prop := fun xs H Q => ∃ p ys, xs = [.ref p] ∧ ((SqL K H p ys ∧ ∀ l, H l = none → Q (.ref l) (upd H l (.tup ys))) ∨ (SqT K H p ys ∧ Q (.ref p) H))
theorem k_tupOf (hK : X.K = K) : CallR X (.type "tuple") (rTupQ K) := hK ▸ call_tuple_of
theorem k_isi (hK : X.K = K) : CallR X (.builtin "isinstance") (rIsi K) := hK ▸ call_isi
theorem k_isiT (hK : X.K = K) : CallR X (.builtin "isinstance") (rIsiT K) := hK ▸ call_isiT
theorem k_sortedI (hK : X.K = K) : CallR X (.builtin "sorted") (rSortedI K) := hK ▸ cr_sortedI
theorem k_max (hK : X.K = K) (hc : X.calm = true) : CallR X (.builtin "max") (rMax K) := hK ▸ cr_max hc
theorem k_sum (hK : X.K = K) (hc : X.calm = true) : CallR X (.builtin "sum") (rSum K) := hK ▸ cr_sum hc
theorem k_listI {tg l : Expr} {tl : TE} (hK : X.K = K) (hl : PE X l tl) : PI X tg l (iList K tl) := hK ▸ pi_list hl
theorem k_tupI {tg l : Expr} {tl : TE} (hK : X.K = K) (hl : PE X l tl) : PI X tg l (iTup K tl) := hK ▸ pi_tup hl
theorem k_bm {o e : Expr} {es : List Expr} {to : TE} {t : TA} {name : Str} {apos cpos : Pos} {T id : String} {r : V → List V → Hp → VK → Prop} (hK : X.K = K) (pa : PlainAttrs T) (slot : Slot T name id) (hty : typeOf (.builtin id) = pure (.type "method_descriptor")) (hm : MtR X id r) (ho : PE X o to) (ha : PA X (e :: es) t)
    (h : PE X (.Call (.Attribute o name apos) (e :: es) [] cpos) (tBM X.K T r to t)) : PE X (.Call (.Attribute o name apos) (e :: es) [] cpos) (tBM K T r to t) := hK ▸ h
end
theorem r_lenX {K : PySem.W.Frag} {H : Hp} {Q : VK} {xs : List V} (h : ∃ p ys, xs = [.ref p] ∧ (SqL K H p ys ∨ SqT K H p ys) ∧ Q (.int ys.length) H) : rLenQ K xs H Q := h
theorem r_lenS {K : PySem.W.Frag} {H : Hp} {Q : VK} {a : Addr} {xs : List V} (h : H a = some (.lst xs)) (q : Q (.int (xs.length : Int)) H) : rLenQ K [.ref a] H Q := ⟨a, xs, rfl, .inl (SqL.of h), q⟩
theorem r_lenT {K : PySem.W.Frag} {H : Hp} {Q : VK} {a : Addr} {xs : List V} (h : H a = some (.tup xs)) (q : Q (.int (xs.length : Int)) H) : rLenQ K [.ref a] H Q := ⟨a, xs, rfl, .inr (SqT.of h), q⟩
/-! ### readings -/
/-- a reading's next step -/
class Stp (P : Prop) (Q : outParam Prop) : Prop where
  go : Q → P
theorem stp {P Q : Prop} [i : Stp P Q] (h : Q) : P := i.go h
section
variable {K : PySem.W.Frag} {σ : L2.St} {H : Hp} {Q : VK} {D : Ends} {v x y : V} {ta tb te : TE} {t u : TS} {QB : Bool → Hp → Prop} {tc td : TT} {QA : List V → Hp → Prop}
theorem r_st {σ' : L2.St} (e : σ = σ') (h : t D σ' H) : t D σ H := e ▸ h
theorem r_seq (h : t { D with nx := u D } σ H) : tSeq t u D σ H := h
instance i_seq  : Stp (tSeq t u D σ H) (t { D with nx := u D } σ H) := ⟨r_seq⟩
theorem r_set {i : Nat} (h : te σ H fun v H1 => D.nx (σ.set i (some v)) H1) : tAsg te (gName i) D σ H := h
instance (priority := high) i_set {i : Nat} : Stp (tAsg te (gName i) D σ H) (te σ H fun v H1 => D.nx (σ.set i (some v)) H1) := ⟨r_set⟩
theorem r_ret (h : te σ H D.rt) : tRet te D σ H := h
instance i_ret  : Stp (tRet te D σ H) (te σ H D.rt) := ⟨r_ret⟩
theorem r_retN (h : D.rt .non H) : tRetN D σ H := h
instance i_retN  : Stp (tRetN D σ H) (D.rt .non H) := ⟨r_retN⟩
theorem r_drop (h : te σ H fun _ H1 => D.nx σ H1) : tDrop te D σ H := h
instance i_drop  : Stp (tDrop te D σ H) (te σ H fun _ H1 => D.nx σ H1) := ⟨r_drop⟩
theorem r_next (h : D.nx σ H) : tNext D σ H := h
instance i_next  : Stp (tNext D σ H) (D.nx σ H) := ⟨r_next⟩
theorem r_if (h : tc σ H fun b H1 => if b = true then t D σ H1 else u D σ H1) : tIfS tc t u D σ H := h
instance i_if  : Stp (tIfS tc t u D σ H) (tc σ H fun b H1 => if b = true then t D σ H1 else u D σ H1) := ⟨r_if⟩
theorem r_var {i : Nat} (h : σ[i]? = some (some v)) (q : Q v H) : tVar i σ H Q := ⟨v, h, q⟩
theorem r_c (q : Q v H) : tC v σ H Q := q
instance i_c  : Stp (tC v σ H Q) (Q v H) := ⟨r_c⟩
theorem r_op {r : R2} (h : ta σ H fun x H1 => tb σ H1 fun y H2 => r x y H2 Q) : tOp r ta tb σ H Q := h
instance i_op {r : R2} : Stp (tOp r ta tb σ H Q) (ta σ H fun x H1 => tb σ H1 fun y H2 => r x y H2 Q) := ⟨r_op⟩
theorem r_test (h : te σ H fun x H1 => ∃ k, x = .bl k ∧ QB k H1) : tTest te σ H QB := h
instance i_test  : Stp (tTest te σ H QB) (te σ H fun x H1 => ∃ k, x = .bl k ∧ QB k H1) := ⟨r_test⟩
theorem r_B (h : te σ H fun x H1 => ∃ k, x = .bl k ∧ QB k H1) : tB te σ H QB := h
instance i_B  : Stp (tB te σ H QB) (te σ H fun x H1 => ∃ k, x = .bl k ∧ QB k H1) := ⟨r_B⟩
theorem r_bl {b : Bool} (q : QB b H) : ∃ k, V.bl b = .bl k ∧ QB k H := ⟨b, rfl, q⟩
instance i_bl {b : Bool} : Stp (∃ k, V.bl b = .bl k ∧ QB k H) (QB b H) := ⟨r_bl⟩
theorem r_blk {b : Bool} {P : Bool → Prop} (q : P b) : ∃ k, V.bl b = .bl k ∧ P k := ⟨b, rfl, q⟩
instance i_blk {b : Bool} {P : Bool → Prop} : Stp (∃ k, V.bl b = .bl k ∧ P k) (P b) := ⟨r_blk⟩
theorem r_range {lo a n : Int} (hb : ∀ Q : VK, Q (.int a) H → tb σ H Q) (hk : ∀ Q : VK, Q (.int n) H → te σ H Q) (q : Q (.bl (decide (lo ≤ a ∧ a < n))) H) : tChain (rI0 fun i j => .bl (decide (i ≤ j))) (rI0 fun i j => .bl (decide (i < j))) (tC (.int lo)) tb te σ H Q := by
  refine hb _ ⟨lo, a, rfl, rfl, _, rfl, ?_⟩
  by_cases h : lo ≤ a
  · rw [decide_eq_true h, if_pos rfl]
    refine hk _ ⟨a, n, rfl, rfl, ?_⟩
    have e : decide (lo ≤ a ∧ a < n) = decide (a < n) := by simp [h]
    rw [e] at q
    exact q
  · rw [decide_eq_false h, if_neg Bool.false_ne_true]
    have e : decide (lo ≤ a ∧ a < n) = false := by simp [h]
    rw [e] at q
    exact q
theorem r_not (h : tc σ H fun c H1 => QB (!c) H1) : tNot tc σ H QB := h
instance i_not  : Stp (tNot tc σ H QB) (tc σ H fun c H1 => QB (!c) H1) := ⟨r_not⟩
theorem r_and (h : tc σ H fun c H1 => if c = true then td σ H1 QB else QB false H1) : tAnd tc td σ H QB := h
instance i_and  : Stp (tAnd tc td σ H QB) (tc σ H fun c H1 => if c = true then td σ H1 QB else QB false H1) := ⟨r_and⟩
theorem r_or (h : tc σ H fun c H1 => if c = true then QB true H1 else td σ H1 QB) : tOr tc td σ H QB := h
instance i_or  : Stp (tOr tc td σ H QB) (tc σ H fun c H1 => if c = true then QB true H1 else td σ H1 QB) := ⟨r_or⟩
theorem r_ifE (h : tc σ H fun c H1 => if c = true then ta σ H1 Q else tb σ H1 Q) : tIf tc ta tb σ H Q := h
instance i_ifE  : Stp (tIf tc ta tb σ H Q) (tc σ H fun c H1 => if c = true then ta σ H1 Q else tb σ H1 Q) := ⟨r_ifE⟩
theorem r_I0 {g : Int → Int → V} {i j : Int} (q : Q (g i j) H) : rI0 g (.int i) (.int j) H Q := ⟨i, j, rfl, rfl, q⟩
instance i_I0 {g : Int → Int → V} {i j : Int} : Stp (rI0 g (.int i) (.int j) H Q) (Q (g i j) H) := ⟨r_I0⟩
theorem r_I {C : Int → Int → Prop} {g : Int → Int → V} {i j : Int} (c : C i j) (q : Q (g i j) H) : rI C g (.int i) (.int j) H Q := ⟨i, j, rfl, rfl, c, q⟩
theorem r_eq (h : scal x y = true) (q : Q (.bl (decide (x = y))) H) : rEq x y H Q := ⟨h, q⟩
theorem r_ne (h : scal x y = true) (q : Q (.bl (!decide (x = y))) H) : rNe x y H Q := ⟨h, q⟩
theorem r_dec {P A B : Prop} [Decidable P] (h1 : P → A) (h2 : ¬ P → B) : if decide P = true then A else B := by
  by_cases h : P
  · rw [decide_eq_true h, if_pos rfl]
    exact h1 h
  · rw [decide_eq_false h, if_neg Bool.false_ne_true]
    exact h2 h
theorem r_decN {P A B : Prop} [Decidable P] (h1 : ¬ P → A) (h2 : P → B) : if (!decide P) = true then A else B := by
  by_cases h : P
  · rw [decide_eq_true h]
    exact h2 h
  · rw [decide_eq_false h]
    exact h1 h
theorem r_T {A B : Prop} (h : A) : if true = true then A else B := by rw [if_pos rfl]; exact h
instance i_T {A B : Prop} : Stp (if true = true then A else B) (A) := ⟨r_T⟩
theorem r_F {A B : Prop} (h : B) : if false = true then A else B := by rw [if_neg Bool.false_ne_true]; exact h
instance i_F {A B : Prop} : Stp (if false = true then A else B) (B) := ⟨r_F⟩
theorem r_nil (q : QA [] H) : tNil σ H QA := q
instance i_nil  : Stp (tNil σ H QA) (QA [] H) := ⟨r_nil⟩
theorem r_cons {tr : TA} (h : ta σ H fun x H1 => tr σ H1 fun xs H2 => QA (x :: xs) H2) : tCons ta tr σ H QA := h
instance i_cons {tr : TA} : Stp (tCons ta tr σ H QA) (ta σ H fun x H1 => tr σ H1 fun xs H2 => QA (x :: xs) H2) := ⟨r_cons⟩
theorem r_call {sp : Sp} {E : XK} {tr : TA} (h : tr σ H fun vs H1 => sp vs H1 Q E) : tCall sp [] E tr σ H Q := by
  have e : (fun vs H1 => sp (vs ++ []) H1 Q E) = fun vs H1 => sp vs H1 Q E := by
    funext vs H1
    rw [List.append_nil]
  show tr σ H fun vs H1 => sp (vs ++ []) H1 Q E
  rw [e]
  exact h
instance i_call {sp : Sp} {E : XK} {tr : TA} : Stp (tCall sp [] E tr σ H Q) (tr σ H fun vs H1 => sp vs H1 Q E) := ⟨r_call⟩
/-- the method m of the instance x of the class at C -/
def MethOn (C : Addr) (m : Str) (x : V) (H : Hp) (G : Prop) : Prop := ∃ a dx fs, x = .ref a ∧ H a = some (.ins C dx fs) ∧ fs.lookup m = none ∧ G
theorem r_meth {C : Addr} {m : Str} {sp : Sp} {E : XK} {tr : TA} (h : ta σ H fun x H1 => MethOn C m x H1 (tr σ H1 fun vs H2 => sp (x :: vs) H2 Q E)) : tMeth C m sp [] E ta tr σ H Q := by
  have e : (fun x H1 => ∃ a dx fs, x = V.ref a ∧ H1 a = some (.ins C dx fs) ∧ fs.lookup m = none ∧ tr σ H1 fun vs H2 => sp (x :: (vs ++ [])) H2 Q E) = fun x H1 => MethOn C m x H1 (tr σ H1 fun vs H2 => sp (x :: vs) H2 Q E) := by
    funext x H1
    unfold MethOn
    simp only [List.append_nil]
  show ta σ H _
  rw [e]
  exact h
instance i_meth {C : Addr} {m : Str} {sp : Sp} {E : XK} {tr : TA} : Stp (tMeth C m sp [] E ta tr σ H Q) (ta σ H fun x H1 => MethOn C m x H1 (tr σ H1 fun vs H2 => sp (x :: vs) H2 Q E)) := ⟨r_meth⟩
theorem r_methOn {C : Addr} {m : Str} {G : Prop} {p dx : Addr} {fs : List (Str × V)} (h : H p = some (.ins C dx fs)) (hl : fs.lookup m = none) (g : G) : MethOn C m (.ref p) H G := ⟨p, dx, fs, rfl, h, hl, g⟩
/-- the field f of x -/
def FldOn (K : PySem.W.Frag) (f : Str) (x : V) (H : Hp) (Q : VK) : Prop := ∃ a C dx fs v, x = .ref a ∧ H a = some (.ins C dx fs) ∧ Cls K C ∧ NoAttr K C f ∧ fs.lookup f = some v ∧ Q v H
theorem r_fld {f : Str} (h : ta σ H fun x H1 => FldOn K f x H1 Q) : tFld K ta f σ H Q := h
instance i_fld {f : Str} : Stp (tFld K ta f σ H Q) (ta σ H fun x H1 => FldOn K f x H1 Q) := ⟨r_fld⟩
theorem r_fldOn {f : Str} {p C dx : Addr} {fs : List (Str × V)} (h : H p = some (.ins C dx fs)) (c : Cls K C) (n : NoAttr K C f) (hl : fs.lookup f = some v) (q : Q v H) : FldOn K f (.ref p) H Q := ⟨p, C, dx, fs, v, rfl, h, c, n, hl, q⟩
theorem r_cb {r : List V → Hp → VK → Prop} {tr : TA} (h : tr σ H fun vs H1 => r vs H1 Q) : tCB r tr σ H Q := h
instance i_cb {r : List V → Hp → VK → Prop} {tr : TA} : Stp (tCB r tr σ H Q) (tr σ H fun vs H1 => r vs H1 Q) := ⟨r_cb⟩
theorem r_chain {r r' : R2} {tk : TE} (h : ta σ H fun x H1 => tb σ H1 fun y H2 => r x y H2 fun z H3 => ∃ k, z = .bl k ∧ (if k = true then tk σ H3 fun w' H4 => r' y w' H4 Q else Q (.bl false) H3)) : tChain r r' ta tb tk σ H Q := h
end

/-! ### promises by the number of the arguments -/
def sp1 (f : V → Hp → VK → XK → Prop) : Sp := fun vs H Q E => ∃ x, vs = [x] ∧ f x H Q E
def sp2 (f : V → V → Hp → VK → XK → Prop) : Sp := fun vs H Q E => ∃ x y, vs = [x, y] ∧ f x y H Q E
def sp3 (f : V → V → V → Hp → VK → XK → Prop) : Sp := fun vs H Q E => ∃ x y z, vs = [x, y, z] ∧ f x y z H Q E
def sp4 (f : V → V → V → V → Hp → VK → XK → Prop) : Sp := fun vs H Q E => ∃ x y z u, vs = [x, y, z, u] ∧ f x y z u H Q E
def sp5 (f : V → V → V → V → V → Hp → VK → XK → Prop) : Sp := fun vs H Q E => ∃ x y z u v, vs = [x, y, z, u, v] ∧ f x y z u v H Q E
section
variable {H : Hp} {Q : VK} {E : XK} {x y z u v : V}
theorem r_sp1 {f : V → Hp → VK → XK → Prop} (h : f x H Q E) : sp1 f [x] H Q E := ⟨x, rfl, h⟩
instance i_sp1 {f : V → Hp → VK → XK → Prop} : Stp (sp1 f [x] H Q E) (f x H Q E) := ⟨r_sp1⟩
theorem r_sp2 {f : V → V → Hp → VK → XK → Prop} (h : f x y H Q E) : sp2 f [x, y] H Q E := ⟨x, y, rfl, h⟩
instance i_sp2 {f : V → V → Hp → VK → XK → Prop} : Stp (sp2 f [x, y] H Q E) (f x y H Q E) := ⟨r_sp2⟩
theorem r_sp3 {f : V → V → V → Hp → VK → XK → Prop} (h : f x y z H Q E) : sp3 f [x, y, z] H Q E := ⟨x, y, z, rfl, h⟩
instance i_sp3 {f : V → V → V → Hp → VK → XK → Prop} : Stp (sp3 f [x, y, z] H Q E) (f x y z H Q E) := ⟨r_sp3⟩
theorem r_sp4 {f : V → V → V → V → Hp → VK → XK → Prop} (h : f x y z u H Q E) : sp4 f [x, y, z, u] H Q E := ⟨x, y, z, u, rfl, h⟩
instance i_sp4 {f : V → V → V → V → Hp → VK → XK → Prop} : Stp (sp4 f [x, y, z, u] H Q E) (f x y z u H Q E) := ⟨r_sp4⟩
theorem r_sp5 {f : V → V → V → V → V → Hp → VK → XK → Prop} (h : f x y z u v H Q E) : sp5 f [x, y, z, u, v] H Q E := ⟨x, y, z, u, v, rfl, h⟩
instance i_sp5 {f : V → V → V → V → V → Hp → VK → XK → Prop} : Stp (sp5 f [x, y, z, u, v] H Q E) (f x y z u v H Q E) := ⟨r_sp5⟩
end

/-! ### what a step leaves as it was: all but the objects in S; tuples; what was tracked stays tracked -/
structure Fr (S : Addr → Prop) (H H' : Hp) : Prop where
  old : ∀ b o, H b = some o → ¬ S b → H' b = some o
  tup : ∀ b xs, H b = some (.tup xs) → H' b = some (.tup xs)
  thr : ∀ b, H' b = none → H b = none
abbrev No : Addr → Prop := fun _ => False
section
variable {S S' : Addr → Prop} {H H' H1 H2 : Hp} {p : Addr} {o u : HO} {xs : List V}
theorem Fr.refl : Fr S H H := ⟨fun _ _ h _ => h, fun _ _ h => h, fun _ h => h⟩
theorem Fr.trans (a : Fr S H H1) (b : Fr S H1 H2) : Fr S H H2 := ⟨fun c o h n => b.old c o (a.old c o h n) n, fun c xs h => b.tup c xs (a.tup c xs h), fun c h => a.thr c (b.thr c h)⟩
theorem Fr.mono (a : Fr S H H1) (h : ∀ b, S b → S' b) : Fr S' H H1 := ⟨fun c o e n => a.old c o e fun z => n (h c z), a.tup, a.thr⟩
theorem Fr.up (a : Fr No H H1) : Fr S H H1 := a.mono fun _ z => z.elim
theorem Fr.new (h : H p = none) : Fr No H (upd H p o) := ⟨fun b u e _ => by rw [upd_ne (ne_of_none e h)]; exact e, fun b xs e => by rw [upd_ne (ne_of_none e h)]; exact e, fun b e => by
  by_cases z : b = p
  · rw [z, upd_same] at e
    cases e
  · rw [upd_ne z] at e
    exact e⟩
theorem Fr.put (h : H p = some o) (nt : ∀ xs, o ≠ .tup xs) : Fr (fun b => b = p) H (upd H p u) := ⟨fun b v e n => by rw [upd_ne n]; exact e, fun b xs e => by
    have n : b ≠ p := fun z => by
      rw [z, h] at e
      exact nt xs (Option.some.inj e)
    rw [upd_ne n]
    exact e, fun b e => by
  by_cases z : b = p
  · rw [z, upd_same] at e
    cases e
  · rw [upd_ne z] at e
    exact e⟩
theorem Fr.lst (a : Fr No H H1) (h : H p = some o) : H1 p = some o := a.old p o h fun z => z
theorem Fr.fresh (a : Fr S H H1) (h : H1 p = none) : H p = none := a.thr p h
theorem ne_fresh (h : H p = some o) {q : Addr} (h' : H q = none) : q ≠ p := fun z => by
  rw [z, h] at h'
  cases h'
end

/-! ### new lists, new tuples -/
section
variable {K : PySem.W.Frag} {σ : L2.St} {H : Hp} {Q : VK} {xs : List V} {tr : TA}
theorem r_new {o : HO} (h : ∀ p H', H p = none → H' p = some o → Fr No H H' → Q (.ref p) H') : ∀ p, H p = none → Q (.ref p) (upd H p o) := fun p hp => h p _ hp upd_same (Fr.new hp)
def NewL (xs : List V) (H : Hp) (Q : VK) : Prop := xs.length ≤ sizeLine ∧ ∀ p, H p = none → Q (.ref p) (upd H p (.lst xs))
def NewT (xs : List V) (H : Hp) (Q : VK) : Prop := xs.length ≤ sizeLine ∧ ∀ p, H p = none → Q (.ref p) (upd H p (.tup xs))
theorem r_lst (h : tr σ H fun xs H1 => NewL xs H1 Q) : tLst tr σ H Q := h
instance i_lst  : Stp (tLst tr σ H Q) (tr σ H fun xs H1 => NewL xs H1 Q) := ⟨r_lst⟩
theorem r_tup (h : tr σ H fun xs H1 => NewT xs H1 Q) : tTup tr σ H Q := h
instance i_tup  : Stp (tTup tr σ H Q) (tr σ H fun xs H1 => NewT xs H1 Q) := ⟨r_tup⟩
theorem r_newL (hl : xs.length ≤ 1000) (h : ∀ p H', H p = none → H' p = some (.lst xs) → Fr No H H' → Q (.ref p) H') : NewL xs H Q := ⟨Nat.le_of_lt (small1000 hl), r_new h⟩
theorem r_newT (hl : xs.length ≤ 1000) (h : ∀ p H', H p = none → H' p = some (.tup xs) → Fr No H H' → Q (.ref p) H') : NewT xs H Q := ⟨Nat.le_of_lt (small1000 hl), r_new h⟩
end


/-! ### data of tuples, ints, texts: it stays -/
mutual
inductive Td (H : Hp) : V → PyData → Prop
  | non : Td H .non .none
  | bl (b : Bool) : Td H (.bl b) (.bool b)
  | int (i : Int) : Td H (.int i) (.int i)
  | str (x : Str) : Td H (.str x) (.str x)
  | tup {a : Addr} {xs : List V} {ds : List PyData} : H a = some (.tup xs) → TdAll H xs ds → Td H (.ref a) (.tuple ds)
inductive TdAll (H : Hp) : List V → List PyData → Prop
  | nil : TdAll H [] []
  | cons {v : V} {vs : List V} {d : PyData} {ds : List PyData} : Td H v d → TdAll H vs ds → TdAll H (v :: vs) (d :: ds)
end
mutual
theorem Td.fr {S : Addr → Prop} {H H' : Hp} (f : Fr S H H') : ∀ {v : V} {d : PyData}, Td H v d → Td H' v d
  | _, _, .non => .non
  | _, _, .bl b => .bl b
  | _, _, .int i => .int i
  | _, _, .str x => .str x
  | _, _, .tup h r => .tup (f.tup _ _ h) (TdAll.fr f r)
theorem TdAll.fr {S : Addr → Prop} {H H' : Hp} (f : Fr S H H') : ∀ {vs : List V} {ds : List PyData}, TdAll H vs ds → TdAll H' vs ds
  | _, _, .nil => .nil
  | _, _, .cons h r => .cons (Td.fr f h) (TdAll.fr f r)
end
mutual
theorem Td.dp {K : PySem.W.Frag} {H : Hp} : ∀ {v : V} {d : PyData}, Td H v d → Dp K H v d
  | _, _, .non => .non
  | _, _, .bl b => .bl b
  | _, _, .int i => .int i
  | _, _, .str x => .str x
  | _, _, .tup h r => .tup (SqT.of h) (TdAll.dp r)
theorem TdAll.dp {K : PySem.W.Frag} {H : Hp} : ∀ {vs : List V} {ds : List PyData}, TdAll H vs ds → DpAll K H vs ds
  | _, _, .nil => .nil
  | _, _, .cons h r => .cons (Td.dp h) (TdAll.dp r)
end
theorem TdAll.len {H : Hp} : ∀ {vs : List V} {ds : List PyData}, TdAll H vs ds → vs.length = ds.length
  | _, _, .nil => rfl
  | _, _, .cons _ r => by simp [TdAll.len r]
theorem TdAll.app {H : Hp} : ∀ {vs ws : List V} {ds es : List PyData}, TdAll H vs ds → TdAll H ws es → TdAll H (vs ++ ws) (ds ++ es)
  | _, _, _, _, .nil, s => s
  | _, _, _, _, .cons h r, s => .cons h (TdAll.app r s)
theorem TdAll.one {H : Hp} {v : V} {d : PyData} (h : Td H v d) : TdAll H [v] [d] := .cons h .nil
theorem TdAll.at {H : Hp} : ∀ {vs : List V} {ds : List PyData} {i : Nat} {d : PyData}, TdAll H vs ds → ds[i]? = some d → ∃ v, vs[i]? = some v ∧ Td H v d
  | _, _, _, _, .nil, e => by simp at e
  | _, _, 0, _, .cons h _, e => by
    have e' := Option.some.inj (show some _ = some _ from e)
    subst e'
    exact ⟨_, rfl, h⟩
  | _, _, i + 1, _, .cons _ r, e => TdAll.at (i := i) r (by simpa using e)
/-- a list of such data at p -/
def LsAt (H : Hp) (p : Addr) (ds : List PyData) : Prop := ∃ vs, H p = some (.lst vs) ∧ TdAll H vs ds
theorem LsAt.dp {K : PySem.W.Frag} {H : Hp} {p : Addr} {ds : List PyData} (h : LsAt H p ds) : Dp K H (.ref p) (.list ds) := by
  obtain ⟨vs, h1, h2⟩ := h
  exact .lst (SqL.of h1) h2.dp
theorem LsAt.fr {S : Addr → Prop} {H H' : Hp} {p : Addr} {ds : List PyData} (h : LsAt H p ds) (f : Fr S H H') (n : ¬ S p) : LsAt H' p ds := by
  obtain ⟨vs, h1, h2⟩ := h
  exact ⟨vs, f.old _ _ h1 n, h2.fr f⟩
/-! ### data that may be compared -/
def Cmp (d : PyData) : Prop := d.canLay0 = true ∧ d.depth ≤ 60
def CmpAll (ds : List PyData) : Prop := PyData.canLayAll0 ds = true ∧ PyData.depthAll ds ≤ 59
theorem Cmp.shaped {d : PyData} (h : Cmp d) : SeqAt.shaped d = true := by
  unfold SeqAt.shaped
  rw [h.1, Bool.true_and]
  exact decide_eq_true (Nat.le_trans h.2 (by decide))
theorem CmpAll.shaped {ds : List PyData} (h : CmpAll ds) : SeqAt.shaped (.list ds) = true := by
  unfold SeqAt.shaped
  have e : PyData.canLay0 (.list ds) = true := by simp only [PyData.canLay0]; exact h.1
  rw [e, Bool.true_and]
  refine decide_eq_true ?_
  simp only [PyData.depth]
  have := h.2
  omega
theorem CmpAll.nil : CmpAll [] := ⟨by simp [PyData.canLayAll0], by simp [PyData.depthAll]⟩
theorem CmpAll.cons {d : PyData} {ds : List PyData} (h : d.canLay0 = true ∧ d.depth ≤ 59) (r : CmpAll ds) : CmpAll (d :: ds) := ⟨by simp only [PyData.canLayAll0, h.1, r.1, Bool.and_self], by
  simp only [PyData.depthAll]
  have h1 := h.2
  have h2 := r.2
  omega⟩
theorem CmpAll.of {ds : List PyData} (h : ∀ d ∈ ds, d.canLay0 = true ∧ d.depth ≤ 59) : CmpAll ds := by
  induction ds with
  | nil => exact .nil
  | cons d r ih => exact .cons (h d List.mem_cons_self) (ih fun e he => h e (List.mem_cons_of_mem _ he))
theorem eqv_nil (ds : List PyData) : PyData.eqv (.list ds) (.list []) = decide (ds = []) := by
  cases ds with
  | nil => simp [PyData.eqv, PyData.eqvAll]
  | cons d r => simp [PyData.eqv, PyData.eqvAll]
section
variable {K : PySem.W.Frag} {σ : L2.St} {H : Hp} {Q : VK} {D : Ends} {v : V} {te ta tb to : TE} {tr : TA} {QH : Hp → Prop}
theorem r_asg {g : TG} (h : te σ H fun v H1 => g v σ H1 D.nx) : tAsg te g D σ H := h
instance i_asg {g : TG} : Stp (tAsg te g D σ H) (te σ H fun v H1 => g v σ H1 D.nx) := ⟨r_asg⟩
theorem r_gsub {s : TSet} {QS : L2.St → Hp → Prop} (h : ta σ H fun o H1 => tb σ H1 fun i H2 => s o i v H2 fun H3 => QS σ H3) : gSub ta tb s v σ H QS := h
instance i_gsub {s : TSet} {QS : L2.St → Hp → Prop} : Stp (gSub ta tb s v σ H QS) (ta σ H fun o H1 => tb σ H1 fun i H2 => s o i v H2 fun H3 => QS σ H3) := ⟨r_gsub⟩
theorem r_gname {i : Nat} {QS : L2.St → Hp → Prop} (h : QS (σ.set i (some v)) H) : gName i v σ H QS := h
instance i_gname {i : Nat} {QS : L2.St → Hp → Prop} : Stp (gName i v σ H QS) (QS (σ.set i (some v)) H) := ⟨r_gname⟩
theorem r_bm {T : String} {r : V → List V → Hp → VK → Prop} (h : to σ H fun x H1 => tyV K T x H1 ∧ tr σ H1 fun xs H2 => r x xs H2 Q) : tBM K T r to tr σ H Q := h
instance i_bm {T : String} {r : V → List V → Hp → VK → Prop} : Stp (tBM K T r to tr σ H Q) (to σ H fun x H1 => tyV K T x H1 ∧ tr σ H1 fun xs H2 => r x xs H2 Q) := ⟨r_bm⟩
theorem r_bm0 {T : String} {r : V → List V → Hp → VK → Prop} (h : to σ H fun x H1 => tyV K T x H1 ∧ r x [] H1 Q) : tBM0 K T r to σ H Q := h
instance i_bm0 {T : String} {r : V → List V → Hp → VK → Prop} : Stp (tBM0 K T r to σ H Q) (to σ H fun x H1 => tyV K T x H1 ∧ r x [] H1 Q) := ⟨r_bm0⟩
theorem r_tyL {a : Addr} {xs : List V} {G : Prop} (h : H a = some (.lst xs)) (g : G) : tyV K "list" (.ref a) H ∧ G := ⟨.inl ⟨rfl, _, SqL.of h⟩, g⟩
theorem r_eqNil {a p : Addr} {ds : List PyData} (h : Dp K H (.ref a) (.list ds)) (hc : CmpAll ds) (hp : H p = some (.lst [])) (q : Q (.bl (decide (ds = []))) H) : rEqD K (.ref a) (.ref p) H Q :=
  ⟨_, _, h, .lst (SqL.of hp) .nil, hc.shaped, CmpAll.nil.shaped, by rw [eqv_nil]; exact q⟩
theorem r_neNil {a p : Addr} {ds : List PyData} (h : Dp K H (.ref a) (.list ds)) (hc : CmpAll ds) (hp : H p = some (.lst [])) (q : Q (.bl (!decide (ds = []))) H) : rNeD K (.ref a) (.ref p) H Q :=
  ⟨_, _, h, .lst (SqL.of hp) .nil, hc.shaped, CmpAll.nil.shaped, by rw [eqv_nil]; exact q⟩
theorem seqIx0 {n : Nat} (h : 0 < n) : seqIndex? 0 n = some 0 := by
  unfold seqIndex?
  simp [h]
theorem seqIxN {n i : Nat} (h : i < n) : seqIndex? (i : Int) n = some i := by
  unfold seqIndex?
  have h1 : ¬ ((i : Int) < 0) := by omega
  simp only [h1, if_false]
  rw [if_pos (by simp; omega)]
  simp
theorem r_popAt {a : Addr} {xs : List V} {i : Nat} {y : V} (h : H a = some (.lst xs)) (hi : xs[i]? = some y) (hs : i < 100000) (q : Q y (upd H a (.lst (xs.eraseIdx i)))) : rPopAt (.ref a) [.int (i : Int)] H Q :=
  ⟨a, xs, _, i, y, rfl, rfl, h, by omega, by omega, seqIxN (List.getElem?_eq_some_iff.mp hi).1, hi, q⟩
theorem r_append {a : Addr} {xs : List V} {y : V} (h : H a = some (.lst xs)) (hs : xs.length ≤ 1000) (q : Q .non (upd H a (.lst (xs ++ [y])))) : rAppend (.ref a) [y] H Q := ⟨a, xs, y, rfl, rfl, h, small1000 hs, q⟩
end
theorem int_td (H : Hp) : ∀ ns : List Int, TdAll H (ns.map V.int) (ns.map PyData.int)
  | [] => .nil
  | n :: r => .cons (.int n) (int_td H r)

theorem r_listOf {K : PySem.W.Frag} {H : Hp} {Q : VK} {a : Addr} {xs : List V} (h : H a = some (.lst xs)) (q : ∀ p H', H p = none → H' p = some (.lst xs) → Fr No H H' → Q (.ref p) H') : rListQ K [.ref a] H Q := ⟨a, xs, rfl, .inl (SqL.of h), fun p hp => q p _ hp upd_same (Fr.new hp)⟩

/-! ### comprehensions -/
theorem Fr.mut {H H' : Hp} {D : Addr} {u : HO} (f : Fr No H H') (h : H D = none) : Fr No H (upd H' D u) := ⟨fun b o e n => by rw [upd_ne (ne_of_none e h)]; exact f.old b o e n, fun b xs e => by rw [upd_ne (ne_of_none e h)]; exact f.tup b xs e, fun b e => by
  by_cases z : b = D
  · rw [z]
    exact h
  · rw [upd_ne z] at e
    exact f.thr b e⟩
theorem Fr.mut_at {S : Addr → Prop} {H H' : Hp} {D : Addr} {u : HO} (f : Fr S H H') (h : H D = none) : Fr S H (upd H' D u) := ⟨fun b o e n => by rw [upd_ne (ne_of_none e h)]; exact f.old b o e n, fun b xs e => by rw [upd_ne (ne_of_none e h)]; exact f.tup b xs e, fun b e => by
  by_cases z : b = D
  · rw [z]
    exact h
  · rw [upd_ne z] at e
    exact f.thr b e⟩
theorem Td.int_of {H : Hp} {v : V} {i : Int} (h : Td H v (.int i)) : v = .int i := by cases h; rfl
theorem Td.non_of {H : Hp} {v : V} (h : Td H v .none) : v = .non := by cases h; rfl
theorem TdAll.ints_of {H : Hp} : ∀ {vs : List V} {ns : List Int}, TdAll H vs (ns.map PyData.int) → vs = ns.map V.int
  | _, [], h => by cases h; rfl
  | _, n :: r, h => by
    cases h with
    | cons h1 h2 => rw [Td.int_of h1, TdAll.ints_of h2]; rfl
theorem LsAt.ints {H : Hp} {p : Addr} {ns : List Int} (h : LsAt H p (ns.map PyData.int)) : H p = some (.lst (ns.map V.int)) := by
  obtain ⟨vs, h1, h2⟩ := h
  rw [h1, h2.ints_of]
section
variable {K : PySem.W.Frag} {σ : L2.St} {H : Hp} {Q : VK} {ta : TA} {tt : TT} {te tl : TE} {vs : List Nat} {j : Nat} {n : Nat}
/-- what is made so far -/
structure LcW (H : Hp) (D : Addr) (ds : List PyData) (H' : Hp) : Prop where
  new : H D = none
  fr : Fr No H H'
  ls : LsAt H' D ds
/-- an element that may lay new things, and its datum -/
def Gives (te : TE) (σ : L2.St) (H' : Hp) (d : PyData) : Prop := ∀ Q : VK, (∀ v H2, Fr No H' H2 → Td H2 v d → Q v H2) → te σ H' Q
def Tells (tt : TT) (σ : L2.St) (H' : Hp) (b : Bool) : Prop := ∀ Q : Bool → Hp → Prop, (∀ H2, Fr No H' H2 → Q b H2) → tt σ H' Q
theorem tells_yes {H' : Hp} {σ : L2.St} : Tells tYes σ H' true := fun Q q => q H' Fr.refl
theorem lc_turn {H1 H' : Hp} {D : Addr} {σ2 : L2.St} {ds : List PyData} {b : Bool} {d : PyData} (N : Hp → Prop) (w : LcW H1 D ds H') (hl : ds.length < 1000) (ht : Tells tt σ2 H' b) (he : b = true → ∀ H2, Fr No H1 H2 → Gives te σ2 H2 d)
    (h1 : b = true → ∀ H2, LcW H1 D (ds ++ [d]) H2 → N H2) (h0 : b = false → ∀ H2, LcW H1 D ds H2 → N H2) :
    tt σ2 H' fun b H3 => if b = true then te σ2 H3 fun y H4 => ∃ acc, H4 D = some (.lst acc) ∧ acc.length < sizeLine ∧ N (upd H4 D (.lst (acc ++ [y]))) else N H3 := by
  obtain ⟨w1, w2, vs, w3, w4⟩ := w
  refine ht _ fun H3 f3 => ?_
  cases b with
  | true =>
    refine r_T (he rfl H3 (w2.trans f3) _ fun v H4 f4 hv => ⟨vs, (f3.trans f4).lst w3, ?_, h1 rfl _ ⟨w1, Fr.mut ((w2.trans f3).trans f4) w1, vs ++ [v], upd_same, ?_⟩⟩)
    · rw [w4.len]
      exact small1000 (Nat.le_of_lt hl)
    · have f5 : Fr (fun b => b = D) H4 (upd H4 D (.lst (vs ++ [v]))) := Fr.put ((f3.trans f4).lst w3) (fun xs z => by cases z)
      exact ((w4.fr (f3.trans f4)).app (TdAll.one hv)).fr f5
  | false => exact r_F (h0 rfl _ ⟨w1, w2.trans f3, vs, f3.lst w3, w4.fr f3⟩)
/-- the data of the turns below n -/
def turns (f : Nat → Bool) (d : Nat → PyData) (n : Nat) : List PyData := ((List.range n).filter f).map d
theorem turns_succ (f : Nat → Bool) (d : Nat → PyData) (n : Nat) : turns f d (n + 1) = turns f d n ++ (if f n = true then [d n] else []) := by
  unfold turns
  rw [List.range_succ, List.filter_append, List.map_append]
  by_cases h : f n = true
  · simp [h]
  · simp [h]
theorem turns_len (f : Nat → Bool) (d : Nat → PyData) (n : Nat) : (turns f d n).length ≤ n := by
  unfold turns
  rw [List.length_map]
  have h := List.length_filter_le f (List.range n)
  rw [List.length_range] at h
  exact h
theorem r_lcR (f : Nat → Bool) (d : Nat → PyData) (hn : n ≤ 1000) (ha : ∀ Q : List V → Hp → Prop, Q [.int (n : Int)] H → ta σ H Q) (hw : ∀ x, wipe ((wipe σ vs).set j (some x)) vs = wipe σ vs)
    (ht : ∀ (i : Nat) H', i < n → Fr No H H' → Tells tt ((wipe σ vs).set j (some (.int (i : Int)))) H' (f i)) (he : ∀ (i : Nat) H', i < n → f i = true → Fr No H H' → Gives te ((wipe σ vs).set j (some (.int (i : Int)))) H' (d i))
    (q : ∀ p H', H p = none → LsAt H' p (turns f d n) → Fr No H H' → Q (.ref p) H') : tLc (iRng1 ta) (gName j) tt te vs σ H Q := by
  refine ha _ ⟨(n : Int), rfl, by omega, by omega, fun D hD => ?_⟩
  have en : ((n : Int)).toNat = n := by omega
  rw [en]
  refine lc_range (lo := 0) (n := n) (fun i H' => LcW H D (turns f d i) H') ⟨hD, Fr.new hD, [], upd_same, .nil⟩ (fun i H' hi w => ?_) (fun H' w => q D H' hD w.ls w.fr)
  have e0 : (0 : Int) + (i : Int) = (i : Int) := Int.zero_add _
  rw [e0]
  refine ⟨hw _, ?_⟩
  exact lc_turn (d := d i) _ w (by have := turns_len f d i; omega) (ht i H' hi w.fr) (fun hf H2 f2 => he i H2 hi hf f2) (fun hf H2 w2 => by rw [turns_succ, if_pos hf]; exact w2) (fun hf H2 w2 => by
    have nf : ¬ f i = true := by rw [hf]; exact Bool.false_ne_true
    rw [turns_succ, if_neg nf, List.append_nil]
    exact w2)
theorem r_lcL0 {wi : TI} {g : TG} (h : wi σ H fun J H1 => ∀ D, H1 D = none → ∃ W : Nat → Nat → Hp → Prop, (∃ m, W 0 m (upd H1 D (.lst []))) ∧ ∀ i m H, W i m H →
  (J.stop i H ∧ Q (.ref D) H) ∨ (J.go i H ∧ ∃ Nx : Hp → Prop, (∀ H', Nx H' → ∃ m', m' < m ∧ W (i + 1) m' H') ∧ ∀ x H', J.yld i H x H' → g x (wipe σ vs) H' fun σ2 H2 => wipe σ2 vs = wipe σ vs ∧ tt σ2 H2 fun b H3 =>
    if b = true then te σ2 H3 fun y H4 => ∃ acc, H4 D = some (.lst acc) ∧ acc.length < sizeLine ∧ Nx (upd H4 D (.lst (acc ++ [y]))) else Nx H3)) : tLc wi g tt te vs σ H Q := h
theorem r_yes {QB : Bool → Hp → Prop} (h : QB true H) : tYes σ H QB := h
instance i_yes {QB : Bool → Hp → Prop} : Stp (tYes σ H QB) (QB true H) := ⟨r_yes⟩
theorem r_listI {R : It → Hp → Prop} (h : tl σ H fun x H1 => ∃ a, x = .ref a ∧ (∃ xs, SqL K H1 a xs) ∧ R (Itl K a) H1) : iList K tl σ H R := h
instance i_listI {R : It → Hp → Prop} : Stp (iList K tl σ H R) (tl σ H fun x H1 => ∃ a, x = .ref a ∧ (∃ xs, SqL K H1 a xs) ∧ R (Itl K a) H1) := ⟨r_listI⟩
/-- over a list -/
theorem r_lcL {a : Addr} {xs : List V} (f : Nat → Bool) (d : Nat → PyData) (hn : xs.length ≤ 1000) (ha : ∀ Q : VK, Q (.ref a) H → tl σ H Q) (hx : H a = some (.lst xs)) (hw : ∀ x, wipe ((wipe σ vs).set j (some x)) vs = wipe σ vs)
    (ht : ∀ (i : Nat) x H', xs[i]? = some x → Fr No H H' → Tells tt ((wipe σ vs).set j (some x)) H' (f i)) (he : ∀ (i : Nat) x H', xs[i]? = some x → f i = true → Fr No H H' → Gives te ((wipe σ vs).set j (some x)) H' (d i))
    (q : ∀ p H', H p = none → LsAt H' p (turns f d xs.length) → Fr No H H' → Q (.ref p) H') : tLc (iList K tl) (gName j) tt te vs σ H Q := by
  refine ha _ ⟨a, rfl, ⟨xs, SqL.of hx⟩, fun D hD => ?_⟩
  refine lc_list (K := K) (a := a) (xs := xs) (fun i H' => LcW H D (turns f d i) H') ⟨hD, Fr.new hD, [], upd_same, .nil⟩ (fun i H' hi w => SqL.of (w.fr.lst hx)) (fun i x H' hi w => ?_) (fun H' w => q D H' hD w.ls w.fr)
  have hl : i < xs.length := (List.getElem?_eq_some_iff.mp hi).1
  refine ⟨hw _, ?_⟩
  exact lc_turn (d := d i) _ w (by have := turns_len f d i; omega) (ht i x H' hi w.fr) (fun hf H2 f2 => he i x H2 hi hf f2) (fun hf H2 w2 => by rw [turns_succ, if_pos hf]; exact w2) (fun hf H2 w2 => by
    have nf : ¬ f i = true := by rw [hf]; exact Bool.false_ne_true
    rw [turns_succ, if_neg nf, List.append_nil]
    exact w2)
/-- over a tuple -/
theorem r_lcT {a : Addr} {xs : List V} (f : Nat → Bool) (d : Nat → PyData) (hn : xs.length ≤ 1000) (ha : ∀ Q : VK, Q (.ref a) H → tl σ H Q) (hx : H a = some (.tup xs)) (hw : ∀ x, wipe ((wipe σ vs).set j (some x)) vs = wipe σ vs)
    (ht : ∀ (i : Nat) x H', xs[i]? = some x → Fr No H H' → Tells tt ((wipe σ vs).set j (some x)) H' (f i)) (he : ∀ (i : Nat) x H', xs[i]? = some x → f i = true → Fr No H H' → Gives te ((wipe σ vs).set j (some x)) H' (d i))
    (q : ∀ p H', H p = none → LsAt H' p (turns f d xs.length) → Fr No H H' → Q (.ref p) H') : tLc (iTup K tl) (gName j) tt te vs σ H Q := by
  refine ha _ ⟨a, rfl, ⟨xs, SqT.of hx⟩, fun D hD => ?_⟩
  refine lc_tup (K := K) (a := a) (xs := xs) (fun i H' => LcW H D (turns f d i) H') ⟨hD, Fr.new hD, [], upd_same, .nil⟩ (fun i H' hi w => SqT.of (w.fr.tup _ _ hx)) (fun i x H' hi w => ?_) (fun H' w => q D H' hD w.ls w.fr)
  have hl : i < xs.length := (List.getElem?_eq_some_iff.mp hi).1
  refine ⟨hw _, ?_⟩
  exact lc_turn (d := d i) _ w (by have := turns_len f d i; omega) (ht i x H' hi w.fr) (fun hf H2 f2 => he i x H2 hi hf f2) (fun hf H2 w2 => by rw [turns_succ, if_pos hf]; exact w2) (fun hf H2 w2 => by
    have nf : ¬ f i = true := by rw [hf]; exact Bool.false_ne_true
    rw [turns_succ, if_neg nf, List.append_nil]
    exact w2)
/-- an element that is a new list -/
def Makes (te : TE) (σ : L2.St) (H' : Hp) (c : List V) : Prop := ∀ Q : VK, (∀ a H2, H' a = none → H2 a = some (.lst c) → Fr No H' H2 → Q (.ref a) H2) → te σ H' Q
structure LmW (H : Hp) (D : Addr) (c : Nat → List V) (ls : List Addr) (H' : Hp) : Prop where
  new : H D = none
  fr : Fr No H H'
  at_ : H' D = some (.lst (ls.map V.ref))
  nd : (D :: ls).Nodup
  each : ∀ k a, ls[k]? = some a → H' a = some (.lst (c k)) ∧ H a = none
theorem lm_turn {H1 H' : Hp} {D : Addr} {σ2 : L2.St} {ls : List Addr} {c : Nat → List V} (N : Hp → Prop) (w : LmW H1 D c ls H') (hl : ls.length < 1000) (he : ∀ H2, Fr No H1 H2 → Makes te σ2 H2 (c ls.length))
    (h1 : ∀ ls' H2, ls'.length = ls.length + 1 → LmW H1 D c ls' H2 → N H2) :
    tYes σ2 H' fun b H3 => if b = true then te σ2 H3 fun y H4 => ∃ acc, H4 D = some (.lst acc) ∧ acc.length < sizeLine ∧ N (upd H4 D (.lst (acc ++ [y]))) else N H3 := by
  obtain ⟨w1, w2, w3, w4, w5⟩ := w
  unfold tYes
  dsimp only
  rw [if_pos rfl]
  refine he H' w2 _ fun a H4 ha e f => ⟨ls.map V.ref, f.lst w3, by rw [List.length_map]; exact small1000 (Nat.le_of_lt hl), h1 (ls ++ [a]) _ (by simp) ?_⟩
  have nD : a ≠ D := ne_fresh w3 ha
  refine ⟨w1, Fr.mut (w2.trans f) w1, ?_, ?_, fun k b eb => ?_⟩
  · rw [upd_same, List.map_append]
    rfl
  · have e2 : D :: (ls ++ [a]) = (D :: ls) ++ [a] := rfl
    rw [e2, List.nodup_append]
    refine ⟨w4, by simp, fun x hx y hy => ?_⟩
    have ey : y = a := by simpa using hy
    rw [ey]
    intro z
    rcases List.mem_cons.mp hx with q | q
    · exact nD (z.symm.trans q)
    · obtain ⟨k, hk, ek⟩ := List.mem_iff_getElem.mp q
      have := (w5 k x (by rw [List.getElem?_eq_getElem hk, ek])).1
      rw [z, ha] at this
      cases this
  · by_cases hk : k < ls.length
    · rw [List.getElem?_append_left hk] at eb
      obtain ⟨q1, q2⟩ := w5 k b eb
      have nb : b ≠ D := fun z => by
        rw [List.nodup_cons] at w4
        exact w4.1 (z ▸ List.mem_of_getElem? eb)
      exact ⟨(upd_ne nb).trans (f.lst q1), q2⟩
    · have hk2 : k = ls.length := by
        have := (List.getElem?_eq_some_iff.mp eb).1
        rw [List.length_append, List.length_singleton] at this
        omega
      subst hk2
      rw [List.getElem?_append_right (Nat.le_refl _), Nat.sub_self] at eb
      have ea : a = b := Option.some.inj eb
      rw [← ea]
      exact ⟨(upd_ne nD).trans e, w2.fresh ha⟩
theorem r_lcMR (c : Nat → List V) (hn : n ≤ 1000) (ha : ∀ Q : List V → Hp → Prop, Q [.int (n : Int)] H → ta σ H Q) (hw : ∀ x, wipe ((wipe σ vs).set j (some x)) vs = wipe σ vs)
    (he : ∀ (i : Nat) H', i < n → Fr No H H' → Makes te ((wipe σ vs).set j (some (.int (i : Int)))) H' (c i))
    (q : ∀ p ls H', H p = none → ls.length = n → LmW H p c ls H' → Q (.ref p) H') : tLc (iRng1 ta) (gName j) tYes te vs σ H Q := by
  refine ha _ ⟨(n : Int), rfl, by omega, by omega, fun D hD => ?_⟩
  have en : ((n : Int)).toNat = n := by omega
  rw [en]
  refine lc_range (lo := 0) (n := n) (fun i H' => ∃ ls, ls.length = i ∧ LmW H D c ls H') ⟨[], rfl, hD, Fr.new hD, upd_same, by simp, fun k a e => by simp at e⟩ (fun i H' hi ⟨ls, el, w⟩ => ?_) (fun H' ⟨ls, el, w⟩ => q D ls H' hD el w)
  have e0 : (0 : Int) + (i : Int) = (i : Int) := Int.zero_add _
  rw [e0]
  refine ⟨hw _, ?_⟩
  exact lm_turn _ w (by omega) (fun H2 f2 => by rw [el]; exact he i H2 hi f2) (fun ls' H2 el' w' => ⟨ls', by omega, w'⟩)
theorem r_lcML {a : Addr} {xs : List V} (c : Nat → List V) (hn : xs.length ≤ 1000) (ha : ∀ Q : VK, Q (.ref a) H → tl σ H Q) (hx : H a = some (.lst xs)) (hw : ∀ x, wipe ((wipe σ vs).set j (some x)) vs = wipe σ vs)
    (he : ∀ (i : Nat) x H', xs[i]? = some x → Fr No H H' → Makes te ((wipe σ vs).set j (some x)) H' (c i))
    (q : ∀ p ls H', H p = none → ls.length = xs.length → LmW H p c ls H' → Q (.ref p) H') : tLc (iList K tl) (gName j) tYes te vs σ H Q := by
  refine ha _ ⟨a, rfl, ⟨xs, SqL.of hx⟩, fun D hD => ?_⟩
  refine lc_list (K := K) (a := a) (xs := xs) (fun i H' => ∃ ls, ls.length = i ∧ LmW H D c ls H') ⟨[], rfl, hD, Fr.new hD, upd_same, by simp, fun k a e => by simp at e⟩ (fun i H' hi ⟨ls, el, w⟩ => SqL.of (w.fr.lst hx)) (fun i x H' hi ⟨ls, el, w⟩ => ?_) (fun H' ⟨ls, el, w⟩ => q D ls H' hD el w)
  have hl : i < xs.length := (List.getElem?_eq_some_iff.mp hi).1
  refine ⟨hw _, ?_⟩
  exact lm_turn _ w (by omega) (fun H2 f2 => by rw [el]; exact he i x H2 hi f2) (fun ls' H2 el' w' => ⟨ls', by omega, w'⟩)
/-! more steps -/
theorem r_between {σ : L2.St} {lo a n : Int} {tb tk : TE} {Q : VK} (hb : ∀ Q : VK, Q (.int a) H → tb σ H Q) (hk : ∀ Q : VK, Q (.int n) H → tk σ H Q) (q : Q (.bl (decide (lo ≤ a ∧ a ≤ n))) H) : tChain (rI0 fun i j => .bl (decide (i ≤ j))) (rI0 fun i j => .bl (decide (i ≤ j))) (tC (.int lo)) tb tk σ H Q := by
  refine hb _ ⟨lo, a, rfl, rfl, _, rfl, ?_⟩
  by_cases h : lo ≤ a
  · rw [decide_eq_true h, if_pos rfl]
    refine hk _ ⟨a, n, rfl, rfl, ?_⟩
    have e : decide (lo ≤ a ∧ a ≤ n) = decide (a ≤ n) := by simp [h]
    rw [e] at q
    exact q
  · rw [decide_eq_false h, if_neg Bool.false_ne_true]
    have e : decide (lo ≤ a ∧ a ≤ n) = false := by simp [h]
    rw [e] at q
    exact q
def PutOn (K : PySem.W.Frag) (f : Str) (x y : V) (H : Hp) (Q : Hp → Prop) : Prop := ∃ a C dx fs, x = .ref a ∧ H a = some (.ins C dx fs) ∧ Cls K C ∧ NoAttr K C f ∧ fs.length < 1000 ∧ Q (upd H a (.ins C dx (putF f y fs)))
theorem r_sfld {σ : L2.St} {D : Ends} {to tv : TE} {f : Str} (h : tv σ H fun y H1 => to σ H1 fun x H2 => PutOn K f x y H2 (D.nx σ)) : sFld K to tv f D σ H := h
instance i_sfld {σ : L2.St} {D : Ends} {to tv : TE} {f : Str} : Stp (sFld K to tv f D σ H) (tv σ H fun y H1 => to σ H1 fun x H2 => PutOn K f x y H2 (D.nx σ)) := ⟨r_sfld⟩
theorem r_putOn {f : Str} {p C dx : Addr} {y : V} {fs : List (Str × V)} {QH : Hp → Prop} (h : H p = some (.ins C dx fs)) (c : Cls K C) (n : NoAttr K C f) (hl : fs.length < 1000) (q : ∀ H', H' p = some (.ins C dx (putF f y fs)) → Fr (fun b => b = p) H H' → QH H') : PutOn K f (.ref p) y H QH :=
  ⟨p, C, dx, fs, rfl, h, c, n, hl, q _ upd_same (Fr.put h (fun xs z => by cases z))⟩
theorem r_rep {l : Addr} {x : V} {k : Nat} (h : H l = some (.lst [x])) (hk : k ≤ 1000) (q : ∀ p H', H p = none → H' p = some (.lst (List.replicate k x)) → Fr No H H' → Q (.ref p) H') : rRep (.ref l) (.int (k : Int)) H Q := by
  refine ⟨l, (k : Int), [x], rfl, rfl, h, by omega, by omega, ?_, ?_⟩
  · show 1 * _ ≤ sizeLine
    rw [Nat.one_mul]
    exact Nat.le_of_lt (small1000 (by omega))
  · have e : (List.replicate (k : Int).toNat [x]).flatten = List.replicate k x := by
      have ek : ((k : Int)).toNat = k := by omega
      rw [ek]
      clear hk q ek
      induction k with
      | zero => rfl
      | succ m ih => rw [List.replicate_succ, List.flatten_cons, ih, List.replicate_succ]; rfl
    refine r_new (fun p H' hp hp' f => q p H' hp ?_ f)
    rw [hp', e]
end

/-! ### a new instance -/
section
variable {σ : L2.St} {H : Hp} {Q : VK}
def MakeOn (C : Addr) (sp : Sp) (E : XK) (vs : List V) (H1 : Hp) (Q : VK) : Prop := ∀ x dx, H1 x = none → H1 dx = none → dx ≠ x → sp (.ref x :: vs) (upd (upd H1 dx (.own x)) x (.ins C dx [])) (fun v H2 => v = .non ∧ Q (.ref x) H2) E
theorem r_make {C : Addr} {sp : Sp} {E : XK} {tr : TA} (h : tr σ H fun vs H1 => MakeOn C sp E vs H1 Q) : tMake C sp [] E tr σ H Q := by
  have e : (fun vs H1 => ∀ x dx, H1 x = none → H1 dx = none → dx ≠ x → sp (.ref x :: (vs ++ [])) (upd (upd H1 dx (.own x)) x (.ins C dx [])) (fun v H2 => v = .non ∧ Q (.ref x) H2) E) = fun vs H1 => MakeOn C sp E vs H1 Q := by
    funext vs H1
    unfold MakeOn
    simp only [List.append_nil]
  show tr σ H _
  rw [e]
  exact h
instance i_make {C : Addr} {sp : Sp} {E : XK} {tr : TA} : Stp (tMake C sp [] E tr σ H Q) (tr σ H fun vs H1 => MakeOn C sp E vs H1 Q) := ⟨r_make⟩
theorem r_makeOn {C : Addr} {sp : Sp} {E : XK} {vs : List V} (h : ∀ x dx H', H x = none → H' x = some (.ins C dx []) → Fr No H H' → sp (.ref x :: vs) H' (fun v H2 => v = .non ∧ Q (.ref x) H2) E) : MakeOn C sp E vs H Q := fun x dx hx hd ne => by
  refine h x dx _ hx upd_same ?_
  have f1 : Fr No H (upd H dx (.own x)) := Fr.new hd
  exact f1.trans (Fr.new (by rw [upd_ne (fun z => ne z.symm)]; exact hx))
end
end AL

namespace AL
open PySem PySem.Spec PyProof.Rows L2
/-! # tables, as plain data; where a table stands -/
def nV (n : Nat) : V := .int (n : Int)
def oV : Option Nat → V
  | none => .non
  | some n => .int (n : Int)
theorem oV_some (n : Nat) : oV (some n) = .int (n : Int) := rfl
theorem oV_none : oV none = .non := rfl
theorem oV_non (o : Option Nat) : (oV o = .non) ↔ o = none := by
  cases o with
  | none => exact ⟨fun _ => rfl, fun _ => rfl⟩
  | some n => exact ⟨fun z => (nomatch z), fun z => (nomatch z)⟩
theorem oV_int (o : Option Nat) (n : Nat) : (oV o = .int (n : Int)) ↔ o = some n := by
  cases o with
  | none => exact ⟨fun z => (nomatch z), fun z => (nomatch z)⟩
  | some k => exact ⟨fun z => by have := V.int.inj z; rw [Int.ofNat.inj this], fun z => by rw [Option.some.inj z]; rfl⟩
theorem scal_oo (o : Option Nat) (i : Int) : scal (oV o) (.int i) = true := by cases o <;> rfl
theorem scal_on (o : Option Nat) : scal (oV o) .non = true := by cases o <;> rfl
theorem flat_o (o : Option Nat) : flatV (oV o) = true := by cases o <;> rfl

/-- the words of the refusals -/
inductive Wd where
  | noTable | noHall | noAgent | noLock | noHouse | noLetter | stopped | waits | holds | notHeld | up
  deriving DecidableEq
def Wd.str : Wd → Str
  | .noTable => "NoTable" | .noHall => "NoHall" | .noAgent => "NoAgent" | .noLock => "NoLock" | .noHouse => "NoHouse" | .noLetter => "NoLetter"
  | .stopped => "Stopped" | .waits => "Waits" | .holds => "Holds" | .notHeld => "NotHeld" | .up => "Up"
/-- the class of a refusal -/
def Wd.cls (K : PySem.W.Frag) (w : Wd) : Value := .ref (He.ga K w.str)

structure Tb where
  own : List (Option Nat)
  lin : List (List Nat)
  tim : List Nat
  wan : List (Option Nat)
  rou : List Nat
namespace Tb
def n (T : Tb) : Nat := T.wan.length
def m (T : Tb) : Nat := T.own.length
def ow (T : Tb) (l : Nat) : Option Nat := T.own.getD l none
def ln (T : Tb) (l : Nat) : List Nat := T.lin.getD l []
def ti (T : Tb) (l : Nat) : Nat := T.tim.getD l 0
def wa (T : Tb) (a : Nat) : Option Nat := T.wan.getD a none
def ro (T : Tb) (a : Nat) : Nat := T.rou.getD a 0
/-- sizes -/
structure Sz (T : Tb) : Prop where
  n1 : 1 ≤ T.n
  n8 : T.n ≤ 8
  m1 : 1 ≤ T.m
  m12 : T.m ≤ 12
  li : T.lin.length = T.m
  ti : T.tim.length = T.m
  ro : T.rou.length = T.n
def take (T : Tb) (a l : Nat) : Tb := { T with own := T.own.set l (some a), tim := T.tim.set l (T.ti l + 1) }
def free (T : Tb) (l : Nat) : Tb := { T with own := T.own.set l none }
def stop (T : Tb) (a : Nat) : Tb := { T with wan := T.wan.set a none }
def line (T : Tb) (l : Nat) (xs : List Nat) : Tb := { T with lin := T.lin.set l xs }
def wait (T : Tb) (a l : Nat) : Tb := { T with lin := T.lin.set l (T.ln l ++ [a]), wan := T.wan.set a (some l), rou := T.rou.set a (T.ro a + 1) }
/-- who holds a lock that is given -/
def pass (T : Tb) (l : Nat) : Tb := match T.ln l with
  | [] => T.free l
  | a :: r => (((T.free l).line l r).stop a).take a l
def heir (T : Tb) (l : Nat) : Option Nat := (T.ln l).head?
def held (T : Tb) (a : Nat) : List Nat := (List.range T.m).filter fun l => decide (T.ow l = some a)
def unwait (T : Tb) (a : Nat) : Tb := match T.wa a with
  | none => T
  | some l => (T.line l ((T.ln l).erase a)).stop a
def passAll : List Nat → Tb → List (Nat × Option Nat) × Tb
  | [], T => ([], T)
  | l :: r, T => let p := passAll r (T.pass l); ((l, T.heir l) :: p.1, p.2)
def leave (T : Tb) (a : Nat) : List (Nat × Option Nat) × Tb := passAll ((T.unwait a).held a) (T.unwait a)
def isA (T : Tb) (a : Int) : Prop := 0 ≤ a ∧ a < T.n
def isL (T : Tb) (l : Int) : Prop := 0 ≤ l ∧ l < T.m
instance (T : Tb) (a : Int) : Decidable (T.isA a) := by unfold isA; infer_instance
instance (T : Tb) (l : Int) : Decidable (T.isL l) := by unfold isL; infer_instance
/-- the refusal of an agent, a lock that there isn't -/
def fault (T : Tb) (a l : Int) : Option Wd := if T.isA a then (if T.isL l then none else some .noLock) else some .noAgent
def askR (T : Tb) (a l : Int) : Except Wd Bool × Tb := match T.fault a l with
  | some w => (.error w, T)
  | none => if T.wa a.toNat ≠ none then (.error .waits, T) else if T.ow l.toNat = some a.toNat then (.error .holds, T) else
    if T.ow l.toNat = none then (.ok true, T.take a.toNat l.toNat) else (.ok false, T.wait a.toNat l.toNat)
def giveR (T : Tb) (a l : Int) : Except Wd (Option Nat) × Tb := match T.fault a l with
  | some w => (.error w, T)
  | none => if T.wa a.toNat ≠ none then (.error .waits, T) else if T.ow l.toNat ≠ some a.toNat then (.error .notHeld, T) else (.ok (T.heir l.toNat), T.pass l.toNat)
def leaveR (T : Tb) (a : Int) : Except Wd (List (Nat × Option Nat)) × Tb := if T.isA a then (.ok (T.leave a.toNat).1, (T.leave a.toNat).2) else (.error .noAgent, T)
/-- a new table -/
def new (n m : Nat) : Tb := ⟨List.replicate m none, List.replicate m [], List.replicate m 0, List.replicate n none, List.replicate n 0⟩
end Tb

/-! ### sizes stay -/
namespace Tb
variable {T : Tb} {a l : Nat}
theorem Sz.congr {T' : Tb} (s : T.Sz) (h1 : T'.n = T.n) (h2 : T'.m = T.m) (h3 : T'.lin.length = T.lin.length) (h4 : T'.tim.length = T.tim.length) (h5 : T'.rou.length = T.rou.length) : T'.Sz :=
  ⟨h1 ▸ s.n1, h1 ▸ s.n8, h2 ▸ s.m1, h2 ▸ s.m12, by rw [h3, h2]; exact s.li, by rw [h4, h2]; exact s.ti, by rw [h5, h1]; exact s.ro⟩
theorem Sz.free (s : T.Sz) : (T.free l).Sz := s.congr rfl (by unfold Tb.m Tb.free; simp) rfl rfl rfl
theorem Sz.stop (s : T.Sz) : (T.stop a).Sz := s.congr (by unfold Tb.n Tb.stop; simp) rfl rfl rfl rfl
theorem Sz.line {xs : List Nat} (s : T.Sz) : (T.line l xs).Sz := s.congr rfl rfl (by unfold Tb.line; simp) rfl rfl
theorem Sz.take (s : T.Sz) : (T.take a l).Sz := s.congr rfl (by unfold Tb.m Tb.take; simp) rfl (by unfold Tb.take; simp) rfl
theorem Sz.wait (s : T.Sz) : (T.wait a l).Sz := s.congr (by unfold Tb.n Tb.wait; simp) rfl (by unfold Tb.wait; simp) rfl (by unfold Tb.wait; simp)
end Tb

/-! ### where a table stands -/
structure TA where
  p : Addr
  dx : Addr
  ow : Addr
  li : Addr
  ti : Addr
  wa : Addr
  ro : Addr
  ls : List Addr
/-- what may be written -/
def TA.foot (A : TA) : Addr → Prop := fun b => b ∈ A.ow :: A.ti :: A.wa :: A.ro :: A.ls
def TA.has (A : TA) : Addr → Prop := fun b => b ∈ A.p :: A.li :: A.ow :: A.ti :: A.wa :: A.ro :: A.ls
def TA.fs (A : TA) : List (Str × V) := [("owners", .ref A.ow), ("lines", .ref A.li), ("times", .ref A.ti), ("wants", .ref A.wa), ("rounds", .ref A.ro)]
structure TbAt (C : Addr) (H : Hp) (A : TA) (T : Tb) : Prop where
  ins : H A.p = some (.ins C A.dx A.fs)
  own : H A.ow = some (.lst (T.own.map oV))
  lin : H A.li = some (.lst (A.ls.map V.ref))
  tim : H A.ti = some (.lst (T.tim.map nV))
  wan : H A.wa = some (.lst (T.wan.map oV))
  rou : H A.ro = some (.lst (T.rou.map nV))
  each : ∀ i a, A.ls[i]? = some a → H a = some (.lst ((T.ln i).map nV))
  ll : A.ls.length = T.lin.length
  nd : (A.p :: A.li :: A.ow :: A.ti :: A.wa :: A.ro :: A.ls).Nodup
  sz : T.Sz
theorem TA.has_foot {A : TA} {b : Addr} (h : A.foot b) : A.has b := by
  unfold TA.foot at h
  unfold TA.has
  exact List.mem_cons_of_mem _ (List.mem_cons_of_mem _ h)
theorem lk_owners {A : TA} : A.fs.lookup ("owners" : Str) = some (V.ref A.ow) := by rfl
theorem lk_lines {A : TA} : A.fs.lookup ("lines" : Str) = some (V.ref A.li) := by rfl
theorem lk_times {A : TA} : A.fs.lookup ("times" : Str) = some (V.ref A.ti) := by rfl
theorem lk_wants {A : TA} : A.fs.lookup ("wants" : Str) = some (V.ref A.wa) := by rfl
theorem lk_rounds {A : TA} : A.fs.lookup ("rounds" : Str) = some (V.ref A.ro) := by rfl
/-- no method's name is a field's -/
theorem lk_not {A : TA} {m : Str} (h : ([("owners" : Str), "lines", "times", "wants", "rounds"].contains m) = false) : A.fs.lookup m = none := by
  unfold TA.fs
  simp only [List.contains_cons, List.contains_nil, Bool.or_eq_false_iff, Bool.or_false] at h
  obtain ⟨h1, h2, h3, h4, h5⟩ := h
  simp only [List.lookup, h1, h2, h3, h4, h5]

section
variable {C : Addr} {H H' : Hp} {A : TA} {T : Tb} {S : Addr → Prop} {K : PySem.W.Frag} {Q : VK} {QH : Hp → Prop}
theorem TbAt.fr (h : TbAt C H A T) (f : Fr S H H') (d : ∀ b, A.has b → ¬ S b) : TbAt C H' A T := by
  have m : ∀ b o, H b = some o → A.has b → H' b = some o := fun b o e hb => f.old b o e (d b hb)
  refine ⟨m _ _ h.ins ?_, m _ _ h.own ?_, m _ _ h.lin ?_, m _ _ h.tim ?_, m _ _ h.wan ?_, m _ _ h.rou ?_, fun i a e => m _ _ (h.each i a e) ?_, h.ll, h.nd, h.sz⟩
  all_goals unfold TA.has
  all_goals first | (simp; done) | skip
  exact List.mem_cons_of_mem _ (List.mem_cons_of_mem _ (List.mem_cons_of_mem _ (List.mem_cons_of_mem _ (List.mem_cons_of_mem _ (List.mem_cons_of_mem _ (List.mem_of_getElem? e))))))
theorem TbAt.fr0 (h : TbAt C H A T) (f : Fr No H H') : TbAt C H' A T := h.fr f fun _ _ z => z
theorem TbAt.old (h : TbAt C H A T) {b : Addr} (hb : A.has b) : ∃ o, H b = some o ∧ ∀ xs, o ≠ .tup xs := by
  unfold TA.has at hb
  simp only [List.mem_cons] at hb
  rcases hb with e | e | e | e | e | e | e
  · rw [e]; exact ⟨_, h.ins, fun xs z => by cases z⟩
  · rw [e]; exact ⟨_, h.lin, fun xs z => by cases z⟩
  · rw [e]; exact ⟨_, h.own, fun xs z => by cases z⟩
  · rw [e]; exact ⟨_, h.tim, fun xs z => by cases z⟩
  · rw [e]; exact ⟨_, h.wan, fun xs z => by cases z⟩
  · rw [e]; exact ⟨_, h.rou, fun xs z => by cases z⟩
  · obtain ⟨i, hi, e⟩ := List.mem_iff_getElem.mp e
    exact ⟨_, h.each i b (by rw [List.getElem?_eq_getElem hi, e]), fun xs z => by cases z⟩
theorem TbAt.put (h : TbAt C H A T) {b : Addr} {u : HO} (hb : A.foot b) : Fr A.foot H (upd H b u) := by
  obtain ⟨o, e, nt⟩ := h.old (TA.has_foot hb)
  exact (Fr.put e nt).mono fun c z => by rw [z]; exact hb
/-- the inequalities of the places -/
structure TA.Ne (A : TA) : Prop where
  pl : A.p ≠ A.li
  po : A.p ≠ A.ow
  pt : A.p ≠ A.ti
  pw : A.p ≠ A.wa
  pr : A.p ≠ A.ro
  ps : A.p ∉ A.ls
  lo : A.li ≠ A.ow
  lt : A.li ≠ A.ti
  lw : A.li ≠ A.wa
  lr : A.li ≠ A.ro
  ls : A.li ∉ A.ls
  ot : A.ow ≠ A.ti
  ow : A.ow ≠ A.wa
  or_ : A.ow ≠ A.ro
  os : A.ow ∉ A.ls
  tw : A.ti ≠ A.wa
  tr : A.ti ≠ A.ro
  ts : A.ti ∉ A.ls
  wr : A.wa ≠ A.ro
  ws : A.wa ∉ A.ls
  rs : A.ro ∉ A.ls
  nd : A.ls.Nodup
theorem TA.ne_of {A : TA} (nd : (A.p :: A.li :: A.ow :: A.ti :: A.wa :: A.ro :: A.ls).Nodup) : A.Ne := by
  simp only [List.nodup_cons, List.mem_cons, not_or] at nd
  obtain ⟨⟨p1, p2, p3, p4, p5, p6⟩, ⟨l1, l2, l3, l4, l5⟩, ⟨o1, o2, o3, o4⟩, ⟨t1, t2, t3⟩, ⟨w1, w2⟩, r1, n⟩ := nd
  exact ⟨p1, p2, p3, p4, p5, p6, l1, l2, l3, l4, l5, o1, o2, o3, o4, t1, t2, t3, w1, w2, r1, n⟩
theorem TbAt.ne (h : TbAt C H A T) : A.Ne := TA.ne_of h.nd
theorem ne_ls {x a : Addr} {ls : List Addr} {i : Nat} (h : x ∉ ls) (e : ls[i]? = some a) : a ≠ x := fun z => h (z ▸ List.mem_of_getElem? e)
theorem TbAt.uOwn (h : TbAt C H A T) {o : List (Option Nat)} (hl : o.length = T.own.length) : TbAt C (upd H A.ow (.lst (o.map oV))) A { T with own := o } := by
  have N := h.ne
  refine ⟨(upd_ne N.po).trans h.ins, upd_same, (upd_ne N.lo).trans h.lin, (upd_ne N.ot.symm).trans h.tim, (upd_ne N.ow.symm).trans h.wan, (upd_ne N.or_.symm).trans h.rou, fun i a e => (upd_ne (ne_ls N.os e)).trans (h.each i a e), h.ll, h.nd, h.sz.congr rfl hl rfl rfl rfl⟩
theorem TbAt.uTim (h : TbAt C H A T) {o : List Nat} (hl : o.length = T.tim.length) : TbAt C (upd H A.ti (.lst (o.map nV))) A { T with tim := o } := by
  have N := h.ne
  refine ⟨(upd_ne N.pt).trans h.ins, (upd_ne N.ot).trans h.own, (upd_ne N.lt).trans h.lin, upd_same, (upd_ne N.tw.symm).trans h.wan, (upd_ne N.tr.symm).trans h.rou, fun i a e => (upd_ne (ne_ls N.ts e)).trans (h.each i a e), h.ll, h.nd, h.sz.congr rfl rfl rfl hl rfl⟩
theorem TbAt.uWan (h : TbAt C H A T) {o : List (Option Nat)} (hl : o.length = T.wan.length) : TbAt C (upd H A.wa (.lst (o.map oV))) A { T with wan := o } := by
  have N := h.ne
  refine ⟨(upd_ne N.pw).trans h.ins, (upd_ne N.ow).trans h.own, (upd_ne N.lw).trans h.lin, (upd_ne N.tw).trans h.tim, upd_same, (upd_ne N.wr.symm).trans h.rou, fun i a e => (upd_ne (ne_ls N.ws e)).trans (h.each i a e), h.ll, h.nd, h.sz.congr hl rfl rfl rfl rfl⟩
theorem TbAt.uRou (h : TbAt C H A T) {o : List Nat} (hl : o.length = T.rou.length) : TbAt C (upd H A.ro (.lst (o.map nV))) A { T with rou := o } := by
  have N := h.ne
  refine ⟨(upd_ne N.pr).trans h.ins, (upd_ne N.or_).trans h.own, (upd_ne N.lr).trans h.lin, (upd_ne N.tr).trans h.tim, (upd_ne N.wr).trans h.wan, upd_same, fun i a e => (upd_ne (ne_ls N.rs e)).trans (h.each i a e), h.ll, h.nd, h.sz.congr rfl rfl rfl rfl hl⟩
theorem ln_line {l i : Nat} {xs : List Nat} (hl : l < T.lin.length) : (T.line l xs).ln i = if i = l then xs else T.ln i := by
  unfold Tb.line Tb.ln
  simp only [List.getD_eq_getElem?_getD, List.getElem?_set]
  by_cases e : l = i
  · rw [if_pos e, if_pos e.symm, if_pos hl]
    rfl
  · rw [if_neg e, if_neg (fun z => e z.symm)]
theorem TbAt.uLine (h : TbAt C H A T) {l : Nat} {a : Addr} {xs : List Nat} (e : A.ls[l]? = some a) : TbAt C (upd H a (.lst (xs.map nV))) A (T.line l xs) := by
  have N := h.ne
  have ma := List.mem_of_getElem? e
  have hl : l < T.lin.length := by rw [← h.ll]; exact (List.getElem?_eq_some_iff.mp e).1
  have nx : ∀ {x : Addr}, x ∉ A.ls → x ≠ a := fun hx z => hx (z ▸ ma)
  refine ⟨(upd_ne (nx N.ps)).trans h.ins, (upd_ne (nx N.os)).trans h.own, (upd_ne (nx N.ls)).trans h.lin, (upd_ne (nx N.ts)).trans h.tim, (upd_ne (nx N.ws)).trans h.wan, (upd_ne (nx N.rs)).trans h.rou, fun i b eb => ?_, by rw [h.ll]; unfold Tb.line; simp, h.nd, h.sz.line⟩
  rw [ln_line hl]
  by_cases z : i = l
  · rw [if_pos z]
    rw [z, e] at eb
    rw [← Option.some.inj eb, upd_same]
  · rw [if_neg z, upd_ne]
    · exact h.each i b eb
    · intro q
      rw [q] at eb
      exact z (nd_ix N.nd eb e)
/-! the attributes -/
structure TbTxt (K : PySem.W.Frag) (C : Addr) : Prop where
  c : Cls K C
  o : NoAttr K C "owners"
  l : NoAttr K C "lines"
  t : NoAttr K C "times"
  w : NoAttr K C "wants"
  r : NoAttr K C "rounds"
theorem r_owners (X : TbTxt K C) (h : TbAt C H A T) (q : Q (.ref A.ow) H) : FldOn K "owners" (.ref A.p) H Q := r_fldOn h.ins X.c X.o lk_owners q
theorem r_lines (X : TbTxt K C) (h : TbAt C H A T) (q : Q (.ref A.li) H) : FldOn K "lines" (.ref A.p) H Q := r_fldOn h.ins X.c X.l lk_lines q
theorem r_times (X : TbTxt K C) (h : TbAt C H A T) (q : Q (.ref A.ti) H) : FldOn K "times" (.ref A.p) H Q := r_fldOn h.ins X.c X.t lk_times q
theorem r_wants (X : TbTxt K C) (h : TbAt C H A T) (q : Q (.ref A.wa) H) : FldOn K "wants" (.ref A.p) H Q := r_fldOn h.ins X.c X.w lk_wants q
theorem r_rounds (X : TbTxt K C) (h : TbAt C H A T) (q : Q (.ref A.ro) H) : FldOn K "rounds" (.ref A.p) H Q := r_fldOn h.ins X.c X.r lk_rounds q
theorem r_tmeth {m : Str} {G : Prop} (h : TbAt C H A T) (hm : ([("owners" : Str), "lines", "times", "wants", "rounds"].contains m) = false) (g : G) : MethOn C m (.ref A.p) H G := r_methOn h.ins (lk_not hm) g
/-! the items -/
theorem getD_some {α : Type} {xs : List α} {i : Nat} {d : α} (h : i < xs.length) : xs[i]? = some (xs.getD i d) := by
  rw [List.getD_eq_getElem?_getD, List.getElem?_eq_getElem h]
  rfl
theorem map_at {α : Type} {f : α → V} {xs : List α} {i : Nat} {d : α} (h : i < xs.length) : (xs.map f)[i]? = some (f (xs.getD i d)) := by
  rw [List.getElem?_map, getD_some h]
  rfl
theorem r_ixl {a : Addr} {xs : List V} {i : Nat} {v : V} (h : H a = some (.lst xs)) (e : xs[i]? = some v) (q : Q v H) : rIxL K (.ref a) (.int (i : Int)) H Q := ⟨a, _, _, _, rfl, rfl, SqL.of h, atI_nat e, q⟩
theorem r_ixOwn (h : TbAt C H A T) {l : Nat} (hl : l < T.m) (q : Q (oV (T.ow l)) H) : rIxL K (.ref A.ow) (.int (l : Int)) H Q := r_ixl h.own (map_at hl) q
theorem r_ixTim (h : TbAt C H A T) {l : Nat} (hl : l < T.m) (q : Q (.int (T.ti l : Int)) H) : rIxL K (.ref A.ti) (.int (l : Int)) H Q := r_ixl h.tim (map_at (f := nV) (by rw [h.sz.ti]; exact hl)) q
theorem r_ixWan (h : TbAt C H A T) {l : Nat} (hl : l < T.n) (q : Q (oV (T.wa l)) H) : rIxL K (.ref A.wa) (.int (l : Int)) H Q := r_ixl h.wan (map_at hl) q
theorem r_ixRou (h : TbAt C H A T) {l : Nat} (hl : l < T.n) (q : Q (.int (T.ro l : Int)) H) : rIxL K (.ref A.ro) (.int (l : Int)) H Q := r_ixl h.rou (map_at (f := nV) (by rw [h.sz.ro]; exact hl)) q
theorem r_ixLin (h : TbAt C H A T) {l : Nat} (hl : l < T.m) (q : ∀ a, A.ls[l]? = some a → H a = some (.lst ((T.ln l).map nV)) → Q (.ref a) H) : rIxL K (.ref A.li) (.int (l : Int)) H Q := by
  have hl' : l < A.ls.length := by rw [h.ll, h.sz.li]; exact hl
  have e := List.getElem?_eq_getElem hl'
  exact r_ixl h.lin (by rw [List.getElem?_map, e]; rfl) (q _ e (h.each _ _ e))
theorem r_lenWan (h : TbAt C H A T) (q : Q (.int (T.n : Int)) H) : rLenQ K [V.ref A.wa] H Q := ⟨A.wa, _, rfl, .inl (SqL.of h.wan), by rw [List.length_map]; exact q⟩
theorem r_lenOwn (h : TbAt C H A T) (q : Q (.int (T.m : Int)) H) : rLenQ K [V.ref A.ow] H Q := ⟨A.ow, _, rfl, .inl (SqL.of h.own), by rw [List.length_map]; exact q⟩
/-! the stores -/
theorem map_set {α : Type} {f : α → V} {xs : List α} {i : Nat} {x : α} : (xs.map f).set i (f x) = (xs.set i x).map f := List.map_set.symm
theorem ixN_nat {n j : Nat} (hj : j < n) : ixN n (j : Int) = some j := by
  unfold ixN
  rw [if_pos (by omega), if_pos (by omega)]
  simp
theorem r_setl {a : Addr} {xs : List V} {i : Nat} {v : V} (h : H a = some (.lst xs)) (hi : i < xs.length) (q : QH (upd H a (.lst (xs.set i v)))) : rSetL (.ref a) (.int (i : Int)) v H QH := ⟨a, xs, _, i, rfl, rfl, h, ixN_nat hi, q⟩
theorem r_setOwn (h : TbAt C H A T) {l : Nat} (hl : l < T.m) (o : Option Nat) (q : ∀ H', TbAt C H' A { T with own := T.own.set l o } → Fr A.foot H H' → QH H') : rSetL (.ref A.ow) (.int (l : Int)) (oV o) H QH := by
  refine r_setl h.own (by rw [List.length_map]; exact hl) (q _ ?_ (h.put (by simp [TA.foot])))
  rw [map_set]
  exact h.uOwn (by simp)
theorem r_setTim (h : TbAt C H A T) {l : Nat} (hl : l < T.m) (o : Nat) (q : ∀ H', TbAt C H' A { T with tim := T.tim.set l o } → Fr A.foot H H' → QH H') : rSetL (.ref A.ti) (.int (l : Int)) (nV o) H QH := by
  refine r_setl h.tim (by rw [List.length_map, h.sz.ti]; exact hl) (q _ ?_ (h.put (by simp [TA.foot])))
  rw [map_set]
  exact h.uTim (by simp)
theorem r_setWan (h : TbAt C H A T) {l : Nat} (hl : l < T.n) (o : Option Nat) (q : ∀ H', TbAt C H' A { T with wan := T.wan.set l o } → Fr A.foot H H' → QH H') : rSetL (.ref A.wa) (.int (l : Int)) (oV o) H QH := by
  refine r_setl h.wan (by rw [List.length_map]; exact hl) (q _ ?_ (h.put (by simp [TA.foot])))
  rw [map_set]
  exact h.uWan (by simp)
theorem r_setRou (h : TbAt C H A T) {l : Nat} (hl : l < T.n) (o : Nat) (q : ∀ H', TbAt C H' A { T with rou := T.rou.set l o } → Fr A.foot H H' → QH H') : rSetL (.ref A.ro) (.int (l : Int)) (nV o) H QH := by
  refine r_setl h.rou (by rw [List.length_map, h.sz.ro]; exact hl) (q _ ?_ (h.put (by simp [TA.foot])))
  rw [map_set]
  exact h.uRou (by simp)
end

/-! ### what holds of a table between its deeds -/
namespace Tb
structure Wf (T : Tb) : Prop where
  sz : T.Sz
  wl : ∀ a l, T.wa a = some l → l < T.m ∧ a ∈ T.ln l
  lw : ∀ l a, a ∈ T.ln l → a < T.n ∧ T.wa a = some l
  nd : ∀ l, (T.ln l).Nodup
  oh : ∀ l a, T.ow l = some a → a < T.n
  lo : ∀ l, T.ln l ≠ [] → T.ow l ≠ none
  no : ∀ a l, T.wa a = some l → T.ow l ≠ some a
variable {T : Tb}
theorem nodup_le {xs : List Nat} {n : Nat} (h : xs.Nodup) (b : ∀ x ∈ xs, x < n) : xs.length ≤ n := by
  have := h.length_le_of_subset (l₂ := List.range n) fun x hx => List.mem_range.mpr (b x hx)
  rwa [List.length_range] at this
theorem Wf.len (W : T.Wf) (l : Nat) : (T.ln l).length ≤ 8 := Nat.le_trans (nodup_le (W.nd l) fun x hx => (W.lw l x hx).1) W.sz.n8
theorem fault_none {a l : Int} (h : T.fault a l = none) : ∃ x y : Nat, a = (x : Int) ∧ l = (y : Int) ∧ x < T.n ∧ y < T.m := by
  unfold fault at h
  by_cases h1 : T.isA a
  · rw [if_pos h1] at h
    by_cases h2 : T.isL l
    · obtain ⟨a1, a2⟩ := h1
      obtain ⟨l1, l2⟩ := h2
      exact ⟨a.toNat, l.toNat, by omega, by omega, by omega, by omega⟩
    · rw [if_neg h2] at h
      cases h
  · rw [if_neg h1] at h
    cases h
theorem isA_nat {a : Int} (h : T.isA a) : ∃ x : Nat, a = (x : Int) ∧ x < T.n := ⟨a.toNat, by have := h.1; omega, by have := h.1; have := h.2; omega⟩
theorem isL_nat {a : Int} (h : T.isL a) : ∃ x : Nat, a = (x : Int) ∧ x < T.m := ⟨a.toNat, by have := h.1; omega, by have := h.1; have := h.2; omega⟩
theorem isA_of {a : Nat} (h : a < T.n) : T.isA (a : Int) := ⟨by omega, by omega⟩
theorem isL_of {a : Nat} (h : a < T.m) : T.isL (a : Int) := ⟨by omega, by omega⟩
theorem fault_of {a l : Nat} (ha : a < T.n) (hl : l < T.m) : T.fault (a : Int) (l : Int) = none := by
  unfold fault
  rw [if_pos (isA_of ha), if_pos (isL_of hl)]
theorem askR_nat {a l : Nat} (ha : a < T.n) (hl : l < T.m) : T.askR (a : Int) (l : Int) = if T.wa a ≠ none then (.error .waits, T) else if T.ow l = some a then (.error .holds, T) else
    if T.ow l = none then (.ok true, T.take a l) else (.ok false, T.wait a l) := by
  unfold askR
  rw [fault_of ha hl]
  simp only [Int.toNat_natCast]
theorem giveR_nat {a l : Nat} (ha : a < T.n) (hl : l < T.m) : T.giveR (a : Int) (l : Int) = if T.wa a ≠ none then (.error .waits, T) else if T.ow l ≠ some a then (.error .notHeld, T) else (.ok (T.heir l), T.pass l) := by
  unfold giveR
  rw [fault_of ha hl]
  simp only [Int.toNat_natCast]
theorem askR_err {a l : Int} {w : Wd} (h : T.fault a l = some w) : T.askR a l = (.error w, T) := by
  unfold askR
  rw [h]
theorem giveR_err {a l : Int} {w : Wd} (h : T.fault a l = some w) : T.giveR a l = (.error w, T) := by
  unfold giveR
  rw [h]
theorem leaveR_nat {a : Nat} (ha : a < T.n) : T.leaveR (a : Int) = (.ok (T.leave a).1, (T.leave a).2) := by
  unfold leaveR
  rw [if_pos (isA_of ha)]
  simp only [Int.toNat_natCast]
end Tb
section
variable {C : Addr} {H H' : Hp} {A : TA} {T : Tb} {S : Addr → Prop} {K : PySem.W.Frag} {Q : VK} {QH : Hp → Prop} {σ : L2.St}
theorem ls_foot {l : Nat} {a : Addr} (e : A.ls[l]? = some a) : A.foot a := by
  unfold TA.foot
  simp only [List.mem_cons]
  exact .inr (.inr (.inr (.inr (List.mem_of_getElem? e))))
/-- the first of a line goes -/
theorem r_popLine (h : TbAt C H A T) {l : Nat} {a : Addr} {x : Nat} {r : List Nat} (e : A.ls[l]? = some a) (hx : T.ln l = x :: r) (q : ∀ H', TbAt C H' A (T.line l r) → Fr A.foot H H' → Q (.int (x : Int)) H') :
    rPopAt (.ref a) [.int 0] H Q := by
  have he := h.each _ _ e
  rw [hx] at he
  refine r_popAt (i := 0) he rfl (by decide) (q _ ?_ (h.put (ls_foot e)))
  exact h.uLine e
/-- one more in a line -/
theorem r_appLine (h : TbAt C H A T) (hw : (T.ln l).length ≤ 8) {a : Addr} {x : Nat} (e : A.ls[l]? = some a) (q : ∀ H', TbAt C H' A (T.line l (T.ln l ++ [x])) → Fr A.foot H H' → Q .non H') :
    rAppend (.ref a) [.int (x : Int)] H Q := by
  refine r_append (h.each _ _ e) (by rw [List.length_map]; omega) ?_
  have en : ((T.ln l).map nV ++ [V.int (x : Int)]) = (T.ln l ++ [x]).map nV := by
    rw [List.map_append]
    rfl
  rw [en]
  exact q _ (h.uLine e) (h.put (ls_foot e))
theorem map_eraseIdx {α β : Type} {f : α → β} : ∀ {xs : List α} {j : Nat}, (xs.map f).eraseIdx j = (xs.eraseIdx j).map f
  | [], _ => by simp
  | _ :: _, 0 => rfl
  | x :: r, j + 1 => by
    show f x :: (r.map f).eraseIdx j = f x :: (r.eraseIdx j).map f
    rw [map_eraseIdx]
theorem first_at : ∀ {xs : List Nat} {x : Nat}, x ∈ xs → ∃ j, xs[j]? = some x ∧ (∀ m, m < j → xs[m]? ≠ some x) ∧ xs.eraseIdx j = xs.erase x
  | [], x, h => by cases h
  | y :: r, x, h => by
    by_cases e : y = x
    · subst e
      exact ⟨0, rfl, fun m hm => absurd hm (Nat.not_lt_zero m), by simp⟩
    · have hr : x ∈ r := by
        rcases List.mem_cons.mp h with z | z
        · exact absurd z.symm e
        · exact z
      obtain ⟨j, h1, h2, h3⟩ := first_at hr
      refine ⟨j + 1, by simpa using h1, fun m hm => ?_, ?_⟩
      · cases m with
        | zero => simpa using e
        | succ m => simpa using h2 m (by omega)
      · rw [List.erase_cons_tail (by simpa using e), List.eraseIdx_cons_succ, h3]
/-- one goes out of a line -/
theorem r_remLine (h : TbAt C H A T) {l : Nat} {a : Addr} {x : Nat} (e : A.ls[l]? = some a) (hx : x ∈ T.ln l) (q : ∀ H', TbAt C H' A (T.line l ((T.ln l).erase x)) → Fr A.foot H H' → Q .non H') :
    rRemI (.ref a) [.int (x : Int)] H Q := by
  have he := h.each _ _ e
  obtain ⟨j, hat, hfirst, hera⟩ := first_at hx
  have e1 : ∀ xs : List Nat, (xs.map fun n : Nat => (n : Int)).map V.int = xs.map nV := fun xs => by
    rw [List.map_map]
    rfl
  refine ⟨a, (T.ln l).map fun n : Nat => (n : Int), (x : Int), j, rfl, rfl, by rw [e1]; exact he, by rw [List.getElem?_map, hat]; rfl, fun m hm z => ?_, ?_⟩
  · rw [List.getElem?_map] at z
    cases q : (T.ln l)[m]? with
    | none => rw [q] at z; cases z
    | some y =>
      rw [q] at z
      have z2 : (y : Int) = (x : Int) := Option.some.inj z
      exact hfirst m hm (by rw [q]; congr 1; omega)
  · have e2 : ((T.ln l).map fun n : Nat => (n : Int)).eraseIdx j = ((T.ln l).erase x).map fun n : Nat => (n : Int) := by
      rw [← hera, map_eraseIdx]
    rw [e2, e1]
    exact q _ (h.uLine e) (h.put (ls_foot e))
theorem nats_dp {xs : List Nat} {a : Addr} (h : H a = some (.lst (xs.map nV))) : Dp K H (.ref a) (.list (xs.map fun x : Nat => PyData.int (x : Int))) := by
  refine .lst (SqL.of h) ?_
  have := (int_td H (xs.map fun x : Nat => (x : Int))).dp (K := K)
  rw [List.map_map, List.map_map] at this
  exact this
theorem nats_cmp (xs : List Nat) : CmpAll (xs.map fun x : Nat => PyData.int (x : Int)) := CmpAll.of fun d hd => by
  obtain ⟨x, _, e⟩ := List.mem_map.mp hd
  rw [← e]
  exact ⟨by simp [PyData.canLay0], by simp [PyData.depth]⟩
theorem nats_nil {xs : List Nat} : (xs.map (fun x : Nat => PyData.int (x : Int)) = []) ↔ xs = [] := by simp
end
end AL

namespace AL
open PySem PySem.Spec PyProof.Rows L2
/-! # tables: what the deeds leave true (no program in sight) -/
theorem getD_set {α : Type} {xs : List α} {i j : Nat} {v d : α} : (xs.set i v).getD j d = if i = j ∧ i < xs.length then v else xs.getD j d := by
  simp only [List.getD_eq_getElem?_getD, List.getElem?_set]
  by_cases e : i = j
  · subst e
    by_cases h : i < xs.length
    · simp [h]
    · simp [h]
  · simp [e]
namespace Tb
variable {T : Tb} {a b l k : Nat}
theorem ow_lt {x : Nat} (h : T.ow l = some x) : l < T.m := by
  unfold ow at h
  by_cases q : l < T.own.length
  · exact q
  · rw [List.getD_eq_getElem?_getD, List.getElem?_eq_none (by omega)] at h
    cases h
theorem wa_lt {x : Nat} (h : T.wa a = some x) : a < T.n := by
  unfold wa at h
  by_cases q : a < T.wan.length
  · exact q
  · rw [List.getD_eq_getElem?_getD, List.getElem?_eq_none (by omega)] at h
    cases h
theorem ln_lt {x : Nat} (h : x ∈ T.ln l) : l < T.lin.length := by
  unfold ln at h
  by_cases q : l < T.lin.length
  · exact q
  · rw [List.getD_eq_getElem?_getD, List.getElem?_eq_none (by omega)] at h
    cases h
theorem take_n : (T.take a l).n = T.n := rfl
theorem take_m : (T.take a l).m = T.m := by unfold m take; simp
theorem take_ow : (T.take a l).ow k = if l = k ∧ l < T.m then some a else T.ow k := getD_set
theorem take_ln : (T.take a l).ln k = T.ln k := rfl
theorem take_wa : (T.take a l).wa b = T.wa b := rfl
theorem take_ro : (T.take a l).ro b = T.ro b := rfl
theorem take_ti : (T.take a l).ti k = if l = k ∧ l < T.tim.length then T.ti l + 1 else T.ti k := getD_set
theorem free_n : (T.free l).n = T.n := rfl
theorem free_m : (T.free l).m = T.m := by unfold m free; simp
theorem free_ow : (T.free l).ow k = if l = k ∧ l < T.m then none else T.ow k := getD_set
theorem free_ln : (T.free l).ln k = T.ln k := rfl
theorem free_wa : (T.free l).wa b = T.wa b := rfl
theorem stop_n : (T.stop a).n = T.n := by unfold n stop; simp
theorem stop_m : (T.stop a).m = T.m := rfl
theorem stop_ow : (T.stop a).ow k = T.ow k := rfl
theorem stop_ln : (T.stop a).ln k = T.ln k := rfl
theorem stop_wa : (T.stop a).wa b = if a = b ∧ a < T.n then none else T.wa b := getD_set
theorem line_n {xs : List Nat} : (T.line l xs).n = T.n := rfl
theorem line_m {xs : List Nat} : (T.line l xs).m = T.m := rfl
theorem line_ow {xs : List Nat} : (T.line l xs).ow k = T.ow k := rfl
theorem line_ln {xs : List Nat} : (T.line l xs).ln k = if l = k ∧ l < T.lin.length then xs else T.ln k := getD_set
theorem line_wa {xs : List Nat} : (T.line l xs).wa b = T.wa b := rfl
theorem wait_n : (T.wait a l).n = T.n := by unfold n wait; simp
theorem wait_m : (T.wait a l).m = T.m := rfl
theorem wait_ow : (T.wait a l).ow k = T.ow k := rfl
theorem wait_ln : (T.wait a l).ln k = if l = k ∧ l < T.lin.length then T.ln l ++ [a] else T.ln k := getD_set
theorem wait_wa : (T.wait a l).wa b = if a = b ∧ a < T.n then some l else T.wa b := getD_set
theorem wait_ro : (T.wait a l).ro b = if a = b ∧ a < T.rou.length then T.ro a + 1 else T.ro b := getD_set

theorem Wf.take (W : T.Wf) (ha : a < T.n) (hf : T.ow l = none) : (T.take a l).Wf where
  sz := W.sz.take
  wl := fun b k h => by rw [take_m]; exact W.wl b k h
  lw := fun k b h => W.lw k b h
  nd := fun k => W.nd k
  oh := fun k b h => by
    rw [take_ow] at h
    split at h
    · rw [← Option.some.inj h]; exact ha
    · exact W.oh k b h
  lo := fun k h => by
    rw [take_ow]
    split
    · simp
    · exact W.lo k h
  no := fun b k h => by
    rw [take_ow]
    split
    · rename_i q
      intro z
      have e := (W.wl b k h).2
      rw [← q.1] at e
      exact W.lo l (List.ne_nil_of_mem e) hf
    · exact W.no b k h
theorem Wf.wait (W : T.Wf) (ha : a < T.n) (hl : l < T.m) (hw : T.wa a = none) (h1 : T.ow l ≠ none) (h2 : T.ow l ≠ some a) : (T.wait a l).Wf where
  sz := W.sz.wait
  wl := fun b k h => by
    rw [wait_wa] at h
    rw [wait_m, wait_ln]
    split at h
    · rename_i q
      have e := Option.some.inj h
      subst e
      have hl' : l < T.lin.length := by rw [W.sz.li]; exact hl
      rw [if_pos ⟨rfl, hl'⟩]
      exact ⟨hl, by rw [← q.1]; simp⟩
    · obtain ⟨q1, q2⟩ := W.wl b k h
      refine ⟨q1, ?_⟩
      split
      · rename_i q
        rw [← q.1] at q2
        exact List.mem_append_left _ q2
      · exact q2
  lw := fun k b h => by
    rw [wait_ln] at h
    rw [wait_n, wait_wa]
    split at h
    · rename_i q
      rcases List.mem_append.mp h with z | z
      · obtain ⟨q1, q2⟩ := W.lw l b z
        refine ⟨q1, ?_⟩
        have ne : a ≠ b := fun e => by rw [← e, hw] at q2; cases q2
        rw [if_neg (fun z => ne z.1), q2, q.1]
      · have e : b = a := by simpa using z
        subst e
        rw [if_pos ⟨rfl, ha⟩, q.1]
        exact ⟨ha, rfl⟩
    · obtain ⟨q1, q2⟩ := W.lw k b h
      refine ⟨q1, ?_⟩
      have ne : a ≠ b := fun e => by rw [← e, hw] at q2; cases q2
      rw [if_neg (fun z => ne z.1), q2]
  nd := fun k => by
    rw [wait_ln]
    split
    · rw [List.nodup_append]
      refine ⟨W.nd l, by simp, fun x hx y hy => ?_⟩
      have e : y = a := by simpa using hy
      subst e
      intro z
      subst z
      have := (W.lw l x hx).2
      rw [hw] at this
      cases this
    · exact W.nd k
  oh := fun k b h => by rw [wait_n]; exact W.oh k b h
  lo := fun k h => by
    rw [wait_ln] at h
    rw [wait_ow]
    split at h
    · rename_i q
      rw [← q.1]
      exact h1
    · exact W.lo k h
  no := fun b k h => by
    rw [wait_wa] at h
    rw [wait_ow]
    split at h
    · rename_i q
      rw [← Option.some.inj h, ← q.1]
      exact h2
    · exact W.no b k h
theorem pass_nil (h : T.ln l = []) : T.pass l = T.free l := by unfold pass; rw [h]
theorem pass_cons {x : Nat} {r : List Nat} (h : T.ln l = x :: r) : T.pass l = (((T.free l).line l r).stop x).take x l := by unfold pass; rw [h]
theorem pass_n : (T.pass l).n = T.n := by
  cases h : T.ln l with
  | nil => rw [pass_nil h]; rfl
  | cons x r => rw [pass_cons h, take_n, stop_n]; rfl
theorem pass_m : (T.pass l).m = T.m := by
  cases h : T.ln l with
  | nil => rw [pass_nil h, free_m]
  | cons x r => rw [pass_cons h, take_m, stop_m, line_m, free_m]
theorem pass_ow (hl : l < T.m) : (T.pass l).ow k = if l = k then T.heir l else T.ow k := by
  cases h : T.ln l with
  | nil =>
    rw [pass_nil h, free_ow]
    have e : T.heir l = none := by unfold heir; rw [h]; rfl
    rw [e]
    by_cases q : l = k
    · rw [if_pos ⟨q, hl⟩, if_pos q]
    · rw [if_neg (fun z => q z.1), if_neg q]
  | cons x r =>
    rw [pass_cons h, take_ow, stop_m, line_m, free_m, stop_ow, line_ow, free_ow]
    have e : T.heir l = some x := by unfold heir; rw [h]; rfl
    rw [e]
    by_cases q : l = k
    · rw [if_pos ⟨q, hl⟩, if_pos q]
    · rw [if_neg (fun z => q z.1), if_neg q, if_neg (fun z => q z.1)]
theorem pass_ln (hl : l < T.lin.length) : (T.pass l).ln k = if l = k then (T.ln l).tail else T.ln k := by
  cases h : T.ln l with
  | nil =>
    rw [pass_nil h, free_ln]
    by_cases q : l = k
    · rw [if_pos q, ← q, h]; rfl
    · rw [if_neg q]
  | cons x r =>
    rw [pass_cons h, take_ln, stop_ln, line_ln, free_ln]
    by_cases q : l = k
    · rw [if_pos ⟨q, hl⟩, if_pos q]; rfl
    · rw [if_neg (fun z => q z.1), if_neg q]
theorem pass_wa (W : T.Wf) : (T.pass l).wa b = if T.heir l = some b then none else T.wa b := by
  cases h : T.ln l with
  | nil =>
    have e : T.heir l = none := by unfold heir; rw [h]; rfl
    rw [pass_nil h, free_wa, e]
    simp
  | cons x r =>
    have e : T.heir l = some x := by unfold heir; rw [h]; rfl
    rw [pass_cons h, take_wa, stop_wa, line_wa, free_wa, line_n, free_n, e]
    have hx : x < T.n := (W.lw l x (by rw [h]; exact List.mem_cons_self)).1
    by_cases q : x = b
    · rw [if_pos ⟨q, hx⟩, if_pos (by rw [q])]
    · rw [if_neg (fun z => q z.1), if_neg (fun z => q (Option.some.inj z))]
theorem pass_ro : (T.pass l).ro b = T.ro b := by
  cases h : T.ln l with
  | nil => rw [pass_nil h]; rfl
  | cons x r => rw [pass_cons h]; rfl
theorem Sz.pass (s : T.Sz) : (T.pass l).Sz := by
  cases h : T.ln l with
  | nil => rw [pass_nil h]; exact s.free
  | cons x r => rw [pass_cons h]; exact s.free.line.stop.take
theorem heir_mem (h : T.heir l = some a) : a ∈ T.ln l := by
  unfold heir at h
  cases e : T.ln l with
  | nil => rw [e] at h; cases h
  | cons x r => rw [e] at h; rw [← Option.some.inj h]; exact List.mem_cons_self
theorem heir_none (h : T.heir l = none) : T.ln l = [] := by
  unfold heir at h
  cases e : T.ln l with
  | nil => rfl
  | cons x r => rw [e] at h; cases h
theorem Wf.pass (W : T.Wf) (hl : l < T.m) : (T.pass l).Wf := by
  have hl' : l < T.lin.length := by rw [W.sz.li]; exact hl
  refine ⟨W.sz.pass, fun b k h => ?_, fun k b h => ?_, fun k => ?_, fun k b h => ?_, fun k h => ?_, fun b k h => ?_⟩
  · rw [pass_wa W] at h
    rw [pass_m, pass_ln hl']
    split at h
    · cases h
    · rename_i q
      obtain ⟨q1, q2⟩ := W.wl b k h
      refine ⟨q1, ?_⟩
      split
      · rename_i e
        subst e
        unfold heir at q
        cases e : T.ln l with
        | nil => rw [e] at q2; cases q2
        | cons x r =>
          rw [e] at q2 q
          rcases List.mem_cons.mp q2 with z | z
          · exact absurd (by rw [z]; rfl) q
          · exact z
      · exact q2
  · rw [pass_ln hl'] at h
    rw [pass_n, pass_wa W]
    split at h
    · rename_i e
      subst e
      have hm := List.mem_of_mem_tail h
      obtain ⟨q1, q2⟩ := W.lw l b hm
      refine ⟨q1, ?_⟩
      have nd := W.nd l
      rw [if_neg, q2]
      intro z
      unfold heir at z
      cases e : T.ln l with
      | nil => rw [e] at h; cases h
      | cons x r =>
        rw [e] at h z nd
        have ex : x = b := Option.some.inj z
        subst ex
        exact (List.nodup_cons.mp nd).1 h
    · rename_i ne
      obtain ⟨q1, q2⟩ := W.lw k b h
      refine ⟨q1, ?_⟩
      rw [if_neg, q2]
      intro z
      have := (W.lw l b (heir_mem z)).2
      rw [q2] at this
      exact ne (Option.some.inj this).symm
  · rw [pass_ln hl']
    split
    · exact (W.nd l).sublist (List.tail_sublist _)
    · exact W.nd k
  · rw [pass_ow hl] at h
    rw [pass_n]
    split at h
    · exact (W.lw l b (heir_mem h)).1
    · exact W.oh k b h
  · rw [pass_ln hl'] at h
    rw [pass_ow hl]
    split
    · rename_i e
      rw [if_pos e] at h
      intro z
      rw [heir_none z] at h
      exact h rfl
    · rename_i e
      rw [if_neg e] at h
      exact W.lo k h
  · rw [pass_wa W] at h
    rw [pass_ow hl]
    split at h
    · cases h
    · rename_i q
      split
      · exact q
      · exact W.no b k h
theorem unwait_none (h : T.wa a = none) : T.unwait a = T := by unfold unwait; rw [h]
theorem unwait_some (h : T.wa a = some l) : T.unwait a = (T.line l ((T.ln l).erase a)).stop a := by unfold unwait; rw [h]
theorem unwait_n : (T.unwait a).n = T.n := by
  cases h : T.wa a with
  | none => rw [unwait_none h]
  | some l => rw [unwait_some h, stop_n]; rfl
theorem unwait_m : (T.unwait a).m = T.m := by
  cases h : T.wa a with
  | none => rw [unwait_none h]
  | some l => rw [unwait_some h]; rfl
theorem unwait_ow : (T.unwait a).ow k = T.ow k := by
  cases h : T.wa a with
  | none => rw [unwait_none h]
  | some l => rw [unwait_some h]; rfl
theorem unwait_ro : (T.unwait a).ro k = T.ro k := by
  cases h : T.wa a with
  | none => rw [unwait_none h]
  | some l => rw [unwait_some h]; rfl
theorem unwait_wa (ha : a < T.n) : (T.unwait a).wa b = if a = b then none else T.wa b := by
  cases h : T.wa a with
  | none =>
    rw [unwait_none h]
    by_cases q : a = b
    · rw [if_pos q, ← q, h]
    · rw [if_neg q]
  | some l =>
    rw [unwait_some h, stop_wa, line_wa, line_n]
    by_cases q : a = b
    · rw [if_pos ⟨q, ha⟩, if_pos q]
    · rw [if_neg (fun z => q z.1), if_neg q]
theorem Wf.unwait (W : T.Wf) (ha : a < T.n) : (T.unwait a).Wf := by
  cases h : T.wa a with
  | none => rw [unwait_none h]; exact W
  | some l =>
    obtain ⟨hl, hm⟩ := W.wl a l h
    have hl' : l < T.lin.length := by rw [W.sz.li]; exact hl
    rw [unwait_some h]
    refine ⟨W.sz.line.stop, fun b k hb => ?_, fun k b hb => ?_, fun k => ?_, fun k b hb => ?_, fun k hb => ?_, fun b k hb => ?_⟩
    · rw [stop_wa, line_wa, line_n] at hb
      rw [stop_m, line_m, stop_ln, line_ln]
      split at hb
      · cases hb
      · rename_i q
        have ne : a ≠ b := fun e => q ⟨e, ha⟩
        obtain ⟨q1, q2⟩ := W.wl b k hb
        refine ⟨q1, ?_⟩
        split
        · rename_i e
          rw [← e.1] at q2
          exact (List.mem_erase_of_ne (fun z => ne z.symm)).mpr q2
        · exact q2
    · rw [stop_ln, line_ln] at hb
      rw [stop_n, line_n, stop_wa, line_wa, line_n]
      split at hb
      · rename_i e
        obtain ⟨q1, q2⟩ := (W.nd l).mem_erase_iff.mp hb
        obtain ⟨q3, q4⟩ := W.lw l b q2
        rw [if_neg (fun z => q1 z.1.symm), q4, e.1]
        exact ⟨q3, rfl⟩
      · rename_i e
        obtain ⟨q3, q4⟩ := W.lw k b hb
        refine ⟨q3, ?_⟩
        rw [if_neg, q4]
        intro z
        rw [← z.1, h] at q4
        exact e ⟨Option.some.inj q4, hl'⟩
    · rw [stop_ln, line_ln]
      split
      · exact (W.nd l).erase a
      · exact W.nd k
    · rw [stop_n, line_n]
      exact W.oh k b hb
    · rw [stop_ln, line_ln] at hb
      rw [stop_ow, line_ow]
      split at hb
      · rename_i e
        rw [← e.1]
        exact W.lo l (List.ne_nil_of_mem hm)
      · exact W.lo k hb
    · rw [stop_wa, line_wa, line_n] at hb
      rw [stop_ow, line_ow]
      split at hb
      · cases hb
      · exact W.no b k hb
theorem passAll_snoc : ∀ (ls : List Nat) (T : Tb) (l : Nat), passAll (ls ++ [l]) T = ((passAll ls T).1 ++ [(l, (passAll ls T).2.heir l)], (passAll ls T).2.pass l)
  | [], T, l => rfl
  | k :: r, T, l => by
    have ih := passAll_snoc r (T.pass k) l
    show (let p := passAll (r ++ [l]) (T.pass k); ((k, T.heir k) :: p.1, p.2)) = _
    rw [ih]
    rfl
theorem passAll_len : ∀ (ls : List Nat) (T : Tb), (passAll ls T).1.length = ls.length
  | [], T => rfl
  | k :: r, T => by
    show (passAll r (T.pass k)).1.length + 1 = r.length + 1
    rw [passAll_len r]
theorem passAll_n : ∀ (ls : List Nat) (T : Tb), (passAll ls T).2.n = T.n
  | [], T => rfl
  | k :: r, T => by
    show (passAll r (T.pass k)).2.n = T.n
    rw [passAll_n r, pass_n]
theorem passAll_m : ∀ (ls : List Nat) (T : Tb), (passAll ls T).2.m = T.m
  | [], T => rfl
  | k :: r, T => by
    show (passAll r (T.pass k)).2.m = T.m
    rw [passAll_m r, pass_m]
theorem passAll_ro : ∀ (ls : List Nat) (T : Tb) (b : Nat), (passAll ls T).2.ro b = T.ro b
  | [], T, b => rfl
  | k :: r, T, b => by
    show (passAll r (T.pass k)).2.ro b = T.ro b
    rw [passAll_ro r, pass_ro]
theorem Wf.passAll : ∀ (ls : List Nat) {T : Tb}, T.Wf → (∀ l ∈ ls, l < T.m) → (passAll ls T).2.Wf
  | [], T, W, _ => W
  | k :: r, T, W, h => Wf.passAll r (W.pass (h k List.mem_cons_self)) (fun l hl => by rw [pass_m]; exact h l (List.mem_cons_of_mem _ hl))
theorem mem_held : l ∈ T.held a ↔ T.ow l = some a := by
  unfold held
  rw [List.mem_filter, List.mem_range, decide_eq_true_eq]
  exact ⟨fun z => z.2, fun z => ⟨ow_lt z, z⟩⟩
theorem held_lt {x : Nat} (h : x ∈ T.held a) : x < T.m := ow_lt (mem_held.mp h)
theorem held_len : (T.held a).length ≤ T.m := by
  unfold held
  have h := List.length_filter_le (fun l => decide (T.ow l = some a)) (List.range T.m)
  rw [List.length_range] at h
  exact h
theorem held_nd : (T.held a).Nodup := List.nodup_range.filter _
theorem Wf.leave (W : T.Wf) (ha : a < T.n) : (T.leave a).2.Wf := Wf.passAll _ (W.unwait ha) fun l hl => held_lt hl
theorem leave_n : (T.leave a).2.n = T.n := by unfold leave; rw [passAll_n, unwait_n]
theorem leave_m : (T.leave a).2.m = T.m := by unfold leave; rw [passAll_m, unwait_m]
theorem Wf.askR (W : T.Wf) {x y : Int} : (T.askR x y).2.Wf := by
  cases h : T.fault x y with
  | some w => rw [askR_err h]; exact W
  | none =>
    obtain ⟨a, l, rfl, rfl, ha, hl⟩ := fault_none h
    rw [askR_nat ha hl]
    split
    · exact W
    · rename_i q1
      split
      · exact W
      · rename_i q2
        split
        · rename_i q3
          exact W.take ha q3
        · rename_i q3
          exact W.wait ha hl (Decidable.not_not.mp q1) q3 q2
theorem Wf.giveR (W : T.Wf) {x y : Int} : (T.giveR x y).2.Wf := by
  cases h : T.fault x y with
  | some w => rw [giveR_err h]; exact W
  | none =>
    obtain ⟨a, l, rfl, rfl, ha, hl⟩ := fault_none h
    rw [giveR_nat ha hl]
    split
    · exact W
    · split
      · exact W
      · exact W.pass hl
theorem Wf.leaveR (W : T.Wf) {x : Int} : (T.leaveR x).2.Wf := by
  unfold Tb.leaveR
  split
  · rename_i h
    obtain ⟨a, rfl, ha⟩ := isA_nat h
    exact W.leave ha
  · exact W
theorem askR_n {x y : Int} : (T.askR x y).2.n = T.n := by
  unfold Tb.askR
  split
  · rfl
  · split
    · rfl
    · split
      · rfl
      · split
        · rfl
        · exact wait_n
theorem askR_m {x y : Int} : (T.askR x y).2.m = T.m := by
  unfold Tb.askR
  split
  · rfl
  · split
    · rfl
    · split
      · rfl
      · split
        · exact take_m
        · rfl
theorem giveR_n {x y : Int} : (T.giveR x y).2.n = T.n := by
  unfold Tb.giveR
  split
  · rfl
  · split
    · rfl
    · split
      · rfl
      · exact pass_n
theorem giveR_m {x y : Int} : (T.giveR x y).2.m = T.m := by
  unfold Tb.giveR
  split
  · rfl
  · split
    · rfl
    · split
      · rfl
      · exact pass_m
theorem leaveR_n {x : Int} : (T.leaveR x).2.n = T.n := by
  unfold Tb.leaveR
  split
  · exact leave_n
  · rfl
theorem leaveR_m {x : Int} : (T.leaveR x).2.m = T.m := by
  unfold Tb.leaveR
  split
  · exact leave_m
  · rfl
theorem new_n {n m : Nat} : (Tb.new n m).n = n := by unfold Tb.n Tb.new; simp
theorem new_m {n m : Nat} : (Tb.new n m).m = m := by unfold Tb.m Tb.new; simp
theorem getD_replicate {α : Type} {n i : Nat} {x : α} : (List.replicate n x).getD i x = x := by
  rw [List.getD_eq_getElem?_getD, List.getElem?_replicate]
  split <;> rfl
theorem Sz.new {n m : Nat} (h1 : 1 ≤ n) (h2 : n ≤ 8) (h3 : 1 ≤ m) (h4 : m ≤ 12) : (Tb.new n m).Sz := ⟨by rw [new_n]; exact h1, by rw [new_n]; exact h2, by rw [new_m]; exact h3, by rw [new_m]; exact h4, by rw [new_m]; simp [Tb.new], by rw [new_m]; simp [Tb.new], by rw [new_n]; simp [Tb.new]⟩
theorem new_wa {n m a : Nat} : (Tb.new n m).wa a = none := getD_replicate
theorem new_ow {n m a : Nat} : (Tb.new n m).ow a = none := getD_replicate
theorem new_ln {n m a : Nat} : (Tb.new n m).ln a = [] := getD_replicate
theorem new_ti {n m a : Nat} : (Tb.new n m).ti a = 0 := getD_replicate
theorem new_ro {n m a : Nat} : (Tb.new n m).ro a = 0 := getD_replicate
theorem Wf.new {n m : Nat} (s : (Tb.new n m).Sz) : (Tb.new n m).Wf := by
  refine ⟨s, fun b k h => ?_, fun k b h => ?_, fun k => ?_, fun k b h => ?_, fun k h => ?_, fun b k h => ?_⟩
  · rw [new_wa] at h; cases h
  · rw [new_ln] at h; cases h
  · rw [new_ln]; exact List.nodup_nil
  · rw [new_ow] at h; cases h
  · rw [new_ln] at h; exact absurd rfl h
  · rw [new_wa] at h; cases h
end Tb
end AL

namespace AL
open PySem PySem.Spec PyProof.Rows L2
/-! # the promises of a table's methods -/
abbrev tbC (K : PySem.W.Frag) : Addr := He.ga K "Table"
def eW (K : PySem.W.Frag) (w : Wd) (E : XK) (H : Hp) : Prop := E (.ref (He.ga K w.str)) none H
abbrev TbK (K : PySem.W.Frag) := TbAt (tbC K)
abbrev sp_t_need_agent (K : PySem.W.Frag) : Sp := sp2 fun x y H Q E => ∃ A T a, x = .ref A.p ∧ y = .int a ∧ TbK K H A T ∧ (T.isA a → Q .non H) ∧ (¬ T.isA a → eW K .noAgent E H)
abbrev sp_t_need_lock (K : PySem.W.Frag) : Sp := sp2 fun x y H Q E => ∃ A T a, x = .ref A.p ∧ y = .int a ∧ TbK K H A T ∧ (T.isL a → Q .non H) ∧ (¬ T.isL a → eW K .noLock E H)
abbrev sp_t_need_both (K : PySem.W.Frag) : Sp := sp3 fun x y z H Q E => ∃ A T a l, x = .ref A.p ∧ y = .int a ∧ z = .int l ∧ TbK K H A T ∧ (T.fault a l = none → Q .non H) ∧ (∀ w, T.fault a l = some w → eW K w E H)
abbrev sp_t_need_free_to (K : PySem.W.Frag) : Sp := sp2 fun x y H Q E => ∃ A T, ∃ a : Nat, x = .ref A.p ∧ y = .int (a : Int) ∧ TbK K H A T ∧ a < T.n ∧ (T.wa a = none → Q .non H) ∧ (T.wa a ≠ none → eW K .waits E H)
abbrev sp_t_take (K : PySem.W.Frag) : Sp := sp3 fun x y z H Q E => ∃ A T, ∃ a l : Nat, x = .ref A.p ∧ y = .int (a : Int) ∧ z = .int (l : Int) ∧ TbK K H A T ∧ l < T.m ∧ ∀ H', TbK K H' A (T.take a l) → Fr A.foot H H' → Q .non H'
abbrev sp_t_ask (K : PySem.W.Frag) : Sp := sp3 fun x y z H Q E => ∃ A T a l, x = .ref A.p ∧ y = .int a ∧ z = .int l ∧ TbK K H A T ∧ T.Wf ∧ (∀ w T', T.askR a l = (.error w, T') → eW K w E H) ∧
  ∀ b T', T.askR a l = (.ok b, T') → ∀ H', TbK K H' A T' → Fr A.foot H H' → Q (.bl b) H'
abbrev sp_t_pass_on (K : PySem.W.Frag) : Sp := sp2 fun x z H Q E => ∃ A T, ∃ l : Nat, x = .ref A.p ∧ z = .int (l : Int) ∧ TbK K H A T ∧ l < T.m ∧ (∀ a ∈ T.ln l, a < T.n) ∧ ∀ H', TbK K H' A (T.pass l) → Fr A.foot H H' → Q (oV (T.heir l)) H'
abbrev sp_t_give (K : PySem.W.Frag) : Sp := sp3 fun x y z H Q E => ∃ A T a l, x = .ref A.p ∧ y = .int a ∧ z = .int l ∧ TbK K H A T ∧ T.Wf ∧ (∀ w T', T.giveR a l = (.error w, T') → eW K w E H) ∧
  ∀ b T', T.giveR a l = (.ok b, T') → ∀ H', TbK K H' A T' → Fr A.foot H H' → Q (oV b) H'
def oD : Option Nat → PyData
  | none => .none
  | some n => .int (n : Int)
def gone (rs : List (Nat × Option Nat)) : List PyData := rs.map fun r => .tuple [.int (r.1 : Int), oD r.2]
abbrev sp_t_leave (K : PySem.W.Frag) : Sp := sp2 fun x y H Q E => ∃ A T a, x = .ref A.p ∧ y = .int a ∧ TbK K H A T ∧ T.Wf ∧ (∀ w T', T.leaveR a = (.error w, T') → eW K w E H) ∧
  ∀ b T', T.leaveR a = (.ok b, T') → ∀ p H', TbK K H' A T' → Fr A.foot H H' → H p = none → LsAt H' p (gone b) → Q (.ref p) H'
abbrev sp_t_waits (K : PySem.W.Frag) : Sp := sp2 fun x y H Q E => ∃ A T a, x = .ref A.p ∧ y = .int a ∧ TbK K H A T ∧ (T.isA a → Q (oV (T.wa a.toNat)) H) ∧ (¬ T.isA a → eW K .noAgent E H)
abbrev sp_t_held (K : PySem.W.Frag) : Sp := sp2 fun x y H Q E => ∃ A T a, x = .ref A.p ∧ y = .int a ∧ TbK K H A T ∧ (T.isA a → ∀ p H', H p = none → H' p = some (.lst ((T.held a.toNat).map nV)) → Fr No H H' → Q (.ref p) H') ∧ (¬ T.isA a → eW K .noAgent E H)
abbrev sp_t_wait_number (K : PySem.W.Frag) : Sp := sp2 fun x y H Q E => ∃ A T a, x = .ref A.p ∧ y = .int a ∧ TbK K H A T ∧ (T.isA a → Q (.int (T.ro a.toNat : Int)) H) ∧ (¬ T.isA a → eW K .noAgent E H)
abbrev sp_t_holder (K : PySem.W.Frag) : Sp := sp2 fun x y H Q E => ∃ A T a, x = .ref A.p ∧ y = .int a ∧ TbK K H A T ∧ (T.isL a → Q (oV (T.ow a.toNat)) H) ∧ (¬ T.isL a → eW K .noLock E H)
abbrev sp_t_queue (K : PySem.W.Frag) : Sp := sp2 fun x y H Q E => ∃ A T a, x = .ref A.p ∧ y = .int a ∧ TbK K H A T ∧ (T.isL a → ∀ p H', H p = none → H' p = some (.lst ((T.ln a.toNat).map nV)) → Fr No H H' → Q (.ref p) H') ∧ (¬ T.isL a → eW K .noLock E H)
abbrev sp_t_hold_number (K : PySem.W.Frag) : Sp := sp2 fun x y H Q E => ∃ A T a, x = .ref A.p ∧ y = .int a ∧ TbK K H A T ∧ (T.isL a → Q (.int (T.ti a.toNat : Int)) H) ∧ (¬ T.isL a → eW K .noLock E H)
abbrev sp_t_agents (K : PySem.W.Frag) : Sp := sp1 fun x H Q E => ∃ A T, x = .ref A.p ∧ TbK K H A T ∧ Q (.int (T.n : Int)) H
abbrev sp_t_locks (K : PySem.W.Frag) : Sp := sp1 fun x H Q E => ∃ A T, x = .ref A.p ∧ TbK K H A T ∧ Q (.int (T.m : Int)) H
def TbOk (a l : Int) : Prop := (1 ≤ a ∧ a ≤ 8) ∧ 1 ≤ l ∧ l ≤ 12
abbrev sp_t_init (K : PySem.W.Frag) : Sp := sp3 fun x y z H Q E => ∃ p dx a l, x = .ref p ∧ y = .int a ∧ z = .int l ∧ H p = some (.ins (tbC K) dx []) ∧ (¬ TbOk a l → eW K .noTable E H) ∧
  (TbOk a l → ∀ A H', A.p = p → TbK K H' A (Tb.new a.toNat l.toNat) → Fr (fun b => b = p) H H' → (∀ b, A.has b → b ≠ p → H b = none) → Q .non H')
abbrev sp_t_copied (K : PySem.W.Frag) : Sp := sp1 fun x H Q E => ∃ A T, x = .ref A.p ∧ TbK K H A T ∧ ∀ B H', TbK K H' B T → Fr No H H' → (∀ b, B.has b → H b = none) → Q (.ref B.p) H'

section
variable {K : PySem.W.Frag} {H H' : Hp} {A : TA} {T : Tb} {Q : VK}
theorem td_o (H : Hp) (o : Option Nat) : Td H (oV o) (oD o) := by
  cases o with
  | none => exact .non
  | some n => exact .int _
theorem td_two {p : Addr} {v u : V} {d e : PyData} (h : H p = some (.tup [v, u])) (h1 : Td H v d) (h2 : Td H u e) : Td H (.ref p) (.tuple [d, e]) := .tup h (.cons h1 (.cons h2 .nil))
theorem gone_snoc {rs : List (Nat × Option Nat)} {l : Nat} {o : Option Nat} : gone (rs ++ [(l, o)]) = gone rs ++ [.tuple [.int (l : Int), oD o]] := by
  unfold gone
  rw [List.map_append]
  rfl
theorem foot_old (h : TbK K H A T) {b : Addr} (hb : A.foot b) : H b ≠ none := by
  obtain ⟨o, e, _⟩ := h.old (TA.has_foot hb)
  rw [e]
  simp
theorem fresh_foot (h : TbK K H A T) {p : Addr} (hp : H p = none) : ¬ A.foot p := fun z => foot_old h z hp
theorem fresh_has (h : TbK K H A T) {p : Addr} (hp : H p = none) : ¬ A.has p := fun z => by
  obtain ⟨o, e, _⟩ := h.old z
  rw [hp] at e
  cases e
end
/-- what is given so far by one that leaves -/
structure LvW (K : PySem.W.Frag) (A : TA) (T : Tb) (H : Hp) (D : Addr) (ls : List Nat) (H' : Hp) : Prop where
  new : H D = none
  fr : Fr A.foot H H'
  at_ : LsAt H' D (gone (Tb.passAll ls T).1)
  tb : TbK K H' A (Tb.passAll ls T).2

/-- five lists are laid into an instance, one behind another -/
theorem five {C : Addr} {K : PySem.W.Frag} {T : Tb} {p dx ow li ti wa ro : Addr} {ls : List Addr} {c : Nat → List V} {H0 H1 H2 H3 H4 H5 H6 H7 H8 H9 H10 : Hp} {fs : List (Str × V)} (s : T.Sz)
    (hp : H0 p = some (.ins C dx fs)) (hf : putF "rounds" (.ref ro) (putF "wants" (.ref wa) (putF "times" (.ref ti) (putF "lines" (.ref li) (putF "owners" (.ref ow) fs)))) = (TA.mk p dx ow li ti wa ro ls).fs)
    (f0 : Fr No H0 H1) (n0 : H0 ow = none) (e0 : H1 ow = some (.lst (T.own.map oV)))
    (g1 : Fr (fun b => b = p) H1 H2)
    (w : LmW H2 li c ls H3) (hl : ls.length = T.lin.length) (hc : ∀ i, i < T.lin.length → c i = (T.ln i).map nV)
    (g2 : Fr (fun b => b = p) H3 H4)
    (f4 : Fr No H4 H5) (n4 : H4 ti = none) (e4 : H5 ti = some (.lst (T.tim.map nV)))
    (g3 : Fr (fun b => b = p) H5 H6)
    (f6 : Fr No H6 H7) (n6 : H6 wa = none) (e6 : H7 wa = some (.lst (T.wan.map oV)))
    (g4 : Fr (fun b => b = p) H7 H8)
    (f8 : Fr No H8 H9) (n8 : H8 ro = none) (e8 : H9 ro = some (.lst (T.rou.map nV)))
    (g5 : Fr (fun b => b = p) H9 H10) (e10 : H10 p = some (.ins C dx (TA.mk p dx ow li ti wa ro ls).fs)) :
    TbAt C H10 (TA.mk p dx ow li ti wa ro ls) T ∧ Fr (fun b => b = p) H0 H10 ∧ ∀ b, (TA.mk p dx ow li ti wa ro ls).has b → b ≠ p → H0 b = none := by
  have a1 : Fr (fun b => b = p) H0 H2 := f0.up.trans g1
  have a2 : Fr (fun b => b = p) H0 H4 := a1.trans (w.fr.up.trans g2)
  have a3 : Fr (fun b => b = p) H0 H6 := a2.trans (f4.up.trans g3)
  have a4 : Fr (fun b => b = p) H0 H8 := a3.trans (f6.up.trans g4)
  have np : ∀ {x : Addr}, H0 x = none → x ≠ p := fun hx => ne_fresh hp hx
  have n2 : H0 li = none := a1.fresh w.new
  have n4' : H0 ti = none := a2.fresh n4
  have n6' : H0 wa = none := a3.fresh n6
  have n8' : H0 ro = none := a4.fresh n8
  have nls : ∀ b ∈ ls, H0 b = none ∧ H2 b = none := fun b hb => by
    obtain ⟨i, hi, e⟩ := List.mem_iff_getElem.mp hb
    have := (w.each i b (by rw [List.getElem?_eq_getElem hi, e])).2
    exact ⟨a1.fresh this, this⟩
  have ow2 : H2 ow = some (.lst (T.own.map oV)) := g1.old _ _ e0 (np n0)
  have ow4 : H4 ow = some (.lst (T.own.map oV)) := g2.old _ _ (w.fr.lst ow2) (np n0)
  have ow6 := g3.old _ _ (f4.lst ow4) (np n0)
  have ow8 := g4.old _ _ (f6.lst ow6) (np n0)
  have ow10 := g5.old _ _ (f8.lst ow8) (np n0)
  have li4 := g2.old _ _ w.at_ (np n2)
  have li6 := g3.old _ _ (f4.lst li4) (np n2)
  have li8 := g4.old _ _ (f6.lst li6) (np n2)
  have li10 := g5.old _ _ (f8.lst li8) (np n2)
  have ti6 := g3.old _ _ e4 (np n4')
  have ti8 := g4.old _ _ (f6.lst ti6) (np n4')
  have ti10 := g5.old _ _ (f8.lst ti8) (np n4')
  have wa8 := g4.old _ _ e6 (np n6')
  have wa10 := g5.old _ _ (f8.lst wa8) (np n6')
  have ro10 := g5.old _ _ e8 (np n8')
  have ls4 : ∀ (i : Nat) (b : Addr), ls[i]? = some b → H4 b = some (.lst (c i)) := fun i b e => g2.old _ _ (w.each i b e).1 (np (nls b (List.mem_of_getElem? e)).1)
  have ls6 : ∀ (i : Nat) (b : Addr), ls[i]? = some b → H6 b = some (.lst (c i)) := fun i b e => g3.old _ _ (f4.lst (ls4 i b e)) (np (nls b (List.mem_of_getElem? e)).1)
  have ls8 : ∀ (i : Nat) (b : Addr), ls[i]? = some b → H8 b = some (.lst (c i)) := fun i b e => g4.old _ _ (f6.lst (ls6 i b e)) (np (nls b (List.mem_of_getElem? e)).1)
  have ls10 : ∀ (i : Nat) (b : Addr), ls[i]? = some b → H10 b = some (.lst (c i)) := fun i b e => g5.old _ _ (f8.lst (ls8 i b e)) (np (nls b (List.mem_of_getElem? e)).1)
  have at_ls : ∀ {x : Addr} {Hk : Hp}, (∀ (i : Nat) (b : Addr), ls[i]? = some b → Hk b = some (.lst (c i))) → Hk x = none → x ∉ ls := fun hk hx z => by
    obtain ⟨i, hi, e⟩ := List.mem_iff_getElem.mp z
    have := hk i _ (by rw [List.getElem?_eq_getElem hi, e])
    rw [hx] at this
    cases this
  have ndl := w.nd
  rw [List.nodup_cons] at ndl
  refine ⟨⟨e10, ow10, li10, ti10, wa10, ro10, fun i b e => ?_, hl, ?_, s⟩, (a4.trans f8.up).trans g5, fun b hb hbp => ?_⟩
  · have hi : i < T.lin.length := by rw [← hl]; exact (List.getElem?_eq_some_iff.mp e).1
    rw [ls10 i b e, hc i hi]
  · simp only [List.nodup_cons, List.mem_cons, not_or]
    refine ⟨⟨(np n2).symm, (np n0).symm, (np n4').symm, (np n6').symm, (np n8').symm, fun z => np (nls _ z).1 rfl⟩, ⟨ne_fresh ow2 w.new, (ne_fresh li4 n4).symm, (ne_fresh li6 n6).symm, (ne_fresh li8 n8).symm, ndl.1⟩, ⟨(ne_fresh ow4 n4).symm, (ne_fresh ow6 n6).symm, (ne_fresh ow8 n8).symm, fun z => ?_⟩, ⟨(ne_fresh ti6 n6).symm, (ne_fresh ti8 n8).symm, at_ls ls4 n4⟩, ⟨(ne_fresh wa8 n8).symm, at_ls ls6 n6⟩, at_ls ls8 n8, ndl.2⟩
    have := (nls _ z).2
    rw [ow2] at this
    cases this
  · unfold TA.has at hb
    simp only [List.mem_cons] at hb
    rcases hb with e | e | e | e | e | e | e
    · exact absurd e hbp
    · rw [e]; exact n2
    · rw [e]; exact n0
    · rw [e]; exact n4'
    · rw [e]; exact n6'
    · rw [e]; exact n8'
    · exact (nls b e).1
theorem fs_nil {p dx ow li ti wa ro : Addr} {ls : List Addr} : putF "rounds" (.ref ro) (putF "wants" (.ref wa) (putF "times" (.ref ti) (putF "lines" (.ref li) (putF "owners" (.ref ow) [])))) = (TA.mk p dx ow li ti wa ro ls).fs := by rfl
theorem fs_old {p dx ow li ti wa ro : Addr} {ls : List Addr} {B : TA} : putF "rounds" (.ref ro) (putF "wants" (.ref wa) (putF "times" (.ref ti) (putF "lines" (.ref li) (putF "owners" (.ref ow) B.fs)))) = (TA.mk p dx ow li ti wa ro ls).fs := by rfl
end AL

namespace AL
open PySem PySem.Spec PyProof.Rows L2
/-! # the law's own things: the state of drawing, the table as a dict -/
/-! ### d.update(e) -/
def rUpdD : V → List V → Hp → VK → Prop := fun x vs H Q => ∃ (a b : Addr) (kvs more : List (Key × V)), x = .ref a ∧ vs = [.ref b] ∧ H a = some (.dK kvs) ∧ H b = some (.dK more) ∧ a ≠ b ∧ kvs.length + more.length ≤ 1000 ∧ Q .non (upd H a (.dK (mergeK kvs more)))
theorem mt_update {X : Cx} : MtR X "dict.update" rUpdD := by
  intro pins s σ H x vs v us Q I rx rv h
  obtain ⟨a, b, kvs, more, rfl, rfl, ea, eb, ne, hl, q⟩ := h
  cases rx
  cases rv with
  | cons r rr =>
    cases rr
    cases r
    obtain ⟨z, hd, ks, rel, dd⟩ := dk_of I.hok ea
    obtain ⟨z2, hd2, ks2, rel2, dd2⟩ := dk_of I.hok eb
    have hle : kvs.length + more.length ≤ sizeLine := Nat.le_of_lt (small1000 hl)
    refine call_meetsIn PySem.F.slot_dict_update dd.typeIs PySem.F.entry_dict_update (PySem.F.args_dict_update_2 _ _) (meets_dict_update (mixKind X.prog X.w) a b ne hd2) ⟨ks, ks2, dd, dd2, by rw [← rel.length, ← rel2.length]; exact hle, fun h' dd' _ hs => ?_⟩
    have he : ∃ q, h'.get? a = some q := let ⟨q, _, _, hq, _⟩ := dd'; ⟨q, hq⟩
    exact ⟨.non, _, d_write (t' := s.toks) I (by rw [ea]; exact True.intro) hs he (dk_new (Nat.le_trans (length_mergeK more kvs) hle) hd (KV.merge rel2 rel) dd'), rfl, q⟩
section
variable {X : Cx} {K : PySem.W.Frag} {o e : Expr} {to te : TE} {apos cpos : Pos}
theorem k_update (hK : X.K = K) (ho : PE X o to) (he : PE X e te) (hbase : attributeBase o "update" X.env (eval o X.env) = eval o X.env := by rfl) (hline : (apos.endLine == cpos.line) = true := by rfl)
    (h : PE X (.Call (.Attribute o "update" apos) [e] [] cpos) (tBM X.K "dict" rUpdD to (tCons te tNil)) := by exact pe_bm PySem.F.plainAttrs_dict PySem.F.slot_dict_update PySem.F.type_dict_update mt_update ho (pa_cons he pa_nil)) :
    PE X (.Call (.Attribute o "update" apos) [e] [] cpos) (tBM K "dict" rUpdD to (tCons te tNil)) := hK ▸ h
end

/-! ### the state of drawing -/
/-- the script stands known, or apart from S -/
def ScF (K : PySem.W.Frag) (sc : Addr) (ns : List Int) (S : Addr → Prop) : Prop := (∀ H : Hp, SqL K H sc (ns.map V.int)) ∨ ¬ S sc
structure StAt (K : PySem.W.Frag) (H : Hp) (st sc : Addr) (ns : List Int) : Prop where
  ex : ∃ i m l : Int, H st = some (.lst [.ref sc, .int i, .int m, .int l]) ∧ 0 ≤ i ∧ 0 ≤ l
  sq : SqL K H sc (ns.map V.int)
  len : ns.length ≤ 63
section
variable {K : PySem.W.Frag} {S : Addr → Prop} {H H' : Hp} {st sc : Addr} {ns : List Int} {Q : VK} {σ : L2.St}
theorem sqL_fr {a : Addr} {xs : List V} (h : SqL K H a xs) (f : Fr S H H') (n : ¬ S a) : SqL K H' a xs := by
  rcases h with (h | ⟨o, h⟩) | h
  · exact .inl (.inl (f.old _ _ h n))
  · exact .inl (.inr ⟨o, f.old _ _ h n⟩)
  · exact .inr h
theorem StAt.fr (h : StAt K H st sc ns) (f : Fr S H H') (n1 : ¬ S st) (n2 : ScF K sc ns S) : StAt K H' st sc ns := by
  obtain ⟨i, m, l, h1, h2, h3⟩ := h.ex
  exact ⟨⟨i, m, l, f.old _ _ h1 n1, h2, h3⟩, n2.elim (fun k => k H') (fun k => sqL_fr h.sq f k), h.len⟩
theorem ScF.no : ScF K sc ns No := .inr fun z => z
theorem StAt.fr0 (h : StAt K H st sc ns) (f : Fr No H H') : StAt K H' st sc ns := h.fr f (fun z => z) .no
theorem StAt.lst (h : StAt K H st sc ns) : ∃ xs, H st = Option.some (.lst xs) := by
  obtain ⟨i, m, l, h1, _⟩ := h.ex
  exact ⟨_, h1⟩
theorem StAt.some (h : StAt K H st sc ns) : H st ≠ none := by
  obtain ⟨xs, h1⟩ := h.lst
  rw [h1]
  simp
end
abbrev Only1 (a : Addr) : Addr → Prop := fun b => b = a
abbrev sp_Lstart (K : PySem.W.Frag) : Sp := sp1 fun x H Q E => ∃ sc, ∃ ns : List Int, x = .ref sc ∧ SqL K H sc (ns.map V.int) ∧ ns.length ≤ 63 ∧ ∀ st H', H st = none → StAt K H' st sc ns → Fr No H H' → Q (.ref st) H'
abbrev sp_Ldrawn (K : PySem.W.Frag) : Sp := sp2 fun x y H Q E => ∃ st sc ns, ∃ many : Int, x = .ref st ∧ y = .int many ∧ StAt K H st sc ns ∧ 0 < many ∧ many < 2 ^ 200 ∧ ScF K sc ns (Only1 st) ∧ ∀ (r : Nat) H', (r : Int) < many → StAt K H' st sc ns → Fr (Only1 st) H H' → Q (.int (r : Int)) H'

/-! ### the table as a dict -/
structure LA where
  d : Addr
  ow : Addr
  li : Addr
  ti : Addr
  wa : Addr
  ro : Addr
  bad : Addr → Prop
def LA.kvs (D : LA) : List (Key × V) := [(.inr "owners", .ref D.ow), (.inr "lines", .ref D.li), (.inr "times", .ref D.ti), (.inr "wants", .ref D.wa), (.inr "rounds", .ref D.ro)]
def LA.foot (D : LA) : Addr → Prop := fun b => b ∈ [D.ow, D.li, D.ti, D.wa, D.ro]
def LA.has (D : LA) : Addr → Prop := fun b => b ∈ [D.d, D.ow, D.li, D.ti, D.wa, D.ro]
structure LdAt (H : Hp) (D : LA) (T : Tb) : Prop where
  dic : H D.d = some (.dK D.kvs)
  own : H D.ow = some (.lst (T.own.map oV))
  tim : H D.ti = some (.lst (T.tim.map nV))
  wan : H D.wa = some (.lst (T.wan.map oV))
  rou : H D.ro = some (.lst (T.rou.map nV))
  lin : ∃ as : List Addr, H D.li = some (.lst (as.map V.ref)) ∧ as.length = T.lin.length ∧ ∀ i a, as[i]? = some a → H a = some (.lst ((T.ln i).map nV)) ∧ ¬ D.bad a
  nd : [D.d, D.ow, D.li, D.ti, D.wa, D.ro].Nodup
  old : ∀ b, D.bad b → H b ≠ none
  own_bad : ∀ b, D.has b → D.bad b
  sz : T.Sz
section
variable {K : PySem.W.Frag} {S : Addr → Prop} {H H' : Hp} {D : LA} {T : Tb} {Q : VK} {QH : Hp → Prop} {σ : L2.St} {td ty : TE}
theorem LA.has_foot {b : Addr} (h : D.foot b) : D.has b := List.mem_cons_of_mem _ h
theorem LdAt.fr (h : LdAt H D T) (f : Fr S H H') (h1 : ∀ b, S b → D.bad b) (h2 : ∀ b, D.has b → ¬ S b) : LdAt H' D T := by
  have m : ∀ b o, H b = some o → D.has b → H' b = some o := fun b o e hb => f.old b o e (h2 b hb)
  obtain ⟨as, a1, a2, a3⟩ := h.lin
  refine ⟨m _ _ h.dic ?_, m _ _ h.own ?_, m _ _ h.tim ?_, m _ _ h.wan ?_, m _ _ h.rou ?_, ⟨as, m _ _ a1 ?_, a2, fun i a e => ⟨f.old _ _ (a3 i a e).1 (fun z => (a3 i a e).2 (h1 a z)), (a3 i a e).2⟩⟩, h.nd, fun b hb z => h.old b hb (f.thr b z), h.own_bad, h.sz⟩
  all_goals simp [LA.has]
theorem LdAt.fr0 (h : LdAt H D T) (f : Fr No H H') : LdAt H' D T := h.fr f (fun _ z => z.elim) fun _ _ z => z
theorem LdAt.has_old (h : LdAt H D T) {b : Addr} (hb : D.has b) : ∃ o, H b = some o ∧ ∀ xs, o ≠ .tup xs := by
  unfold LA.has at hb
  simp only [List.mem_cons, List.not_mem_nil, or_false] at hb
  obtain ⟨as, a1, _⟩ := h.lin
  rcases hb with e | e | e | e | e | e
  · rw [e]; exact ⟨_, h.dic, fun xs z => by cases z⟩
  · rw [e]; exact ⟨_, h.own, fun xs z => by cases z⟩
  · rw [e]; exact ⟨_, a1, fun xs z => by cases z⟩
  · rw [e]; exact ⟨_, h.tim, fun xs z => by cases z⟩
  · rw [e]; exact ⟨_, h.wan, fun xs z => by cases z⟩
  · rw [e]; exact ⟨_, h.rou, fun xs z => by cases z⟩
theorem LdAt.put (h : LdAt H D T) {b : Addr} {u : HO} (hb : D.foot b) : Fr D.foot H (upd H b u) := by
  obtain ⟨o, e, nt⟩ := h.has_old (LA.has_foot hb)
  exact (Fr.put e nt).mono fun c z => by rw [z]; exact hb
theorem LdAt.fresh (h : LdAt H D T) {a : Addr} (ha : H a = none) : ¬ D.bad a := fun z => h.old a z ha
/-- the inequalities -/
theorem LdAt.ne (h : LdAt H D T) : (D.d ≠ D.ow ∧ D.d ≠ D.li ∧ D.d ≠ D.ti ∧ D.d ≠ D.wa ∧ D.d ≠ D.ro) ∧ (D.ow ≠ D.li ∧ D.ow ≠ D.ti ∧ D.ow ≠ D.wa ∧ D.ow ≠ D.ro) ∧ (D.li ≠ D.ti ∧ D.li ≠ D.wa ∧ D.li ≠ D.ro) ∧ (D.ti ≠ D.wa ∧ D.ti ≠ D.ro) ∧ D.wa ≠ D.ro := by
  have nd := h.nd
  simp only [List.nodup_cons, List.mem_cons, not_or, List.not_mem_nil, or_false, not_false_eq_true, true_and, List.nodup_nil, and_true] at nd
  obtain ⟨⟨p1, p2, p3, p4, p5⟩, ⟨l1, l2, l3, l4⟩, ⟨o1, o2, o3⟩, ⟨t1, t2⟩, w1⟩ := nd
  exact ⟨⟨p1, p2, p3, p4, p5⟩, ⟨l1, l2, l3, l4⟩, ⟨o1, o2, o3⟩, ⟨t1, t2⟩, w1⟩
/-- a list of the five is written anew -/
theorem LdAt.upd1 (h : LdAt H D T) {b : Addr} {u : HO} {T' : Tb} (hb : D.foot b) (e1 : b ≠ D.d) (own : b ≠ D.ow → T'.own = T.own) (own' : b = D.ow → u = .lst (T'.own.map oV)) (tim : b ≠ D.ti → T'.tim = T.tim) (tim' : b = D.ti → u = .lst (T'.tim.map nV))
    (wan : b ≠ D.wa → T'.wan = T.wan) (wan' : b = D.wa → u = .lst (T'.wan.map oV)) (rou : b ≠ D.ro → T'.rou = T.rou) (rou' : b = D.ro → u = .lst (T'.rou.map nV)) (lin : T'.lin = T.lin) (nl : b ≠ D.li) (sz : T'.Sz) : LdAt (upd H b u) D T' := by
  obtain ⟨as, a1, a2, a3⟩ := h.lin
  refine ⟨(upd_ne e1.symm).trans h.dic, ?_, ?_, ?_, ?_, ⟨as, (upd_ne nl.symm).trans a1, by rw [lin]; exact a2, fun i a e => ⟨?_, (a3 i a e).2⟩⟩, h.nd, fun c hc z => ?_, h.own_bad, sz⟩
  · by_cases q : b = D.ow
    · rw [q, upd_same, own' q]
    · rw [upd_ne (fun z => q z.symm), own q]; exact h.own
  · by_cases q : b = D.ti
    · rw [q, upd_same, tim' q]
    · rw [upd_ne (fun z => q z.symm), tim q]; exact h.tim
  · by_cases q : b = D.wa
    · rw [q, upd_same, wan' q]
    · rw [upd_ne (fun z => q z.symm), wan q]; exact h.wan
  · by_cases q : b = D.ro
    · rw [q, upd_same, rou' q]
    · rw [upd_ne (fun z => q z.symm), rou q]; exact h.rou
  · have nb : a ≠ b := fun z => (a3 i a e).2 (h.own_bad a (by rw [z]; exact LA.has_foot hb))
    rw [upd_ne nb]
    have : T'.ln i = T.ln i := by unfold Tb.ln; rw [lin]
    rw [this]
    exact (a3 i a e).1
  · by_cases q : c = b
    · rw [q, upd_same] at z; cases z
    · rw [upd_ne q] at z; exact h.old c hc z
/-- an item of the dict -/
def DgOn (x y : V) (H : Hp) (Q : VK) : Prop := ∃ a v, x = .ref a ∧ DGet H a y (some v) ∧ Q v H
theorem r_dget (h : td σ H fun x H1 => ty σ H1 fun y H2 => DgOn x y H2 Q) : tDGet td ty σ H Q := h
instance i_dget  : Stp (tDGet td ty σ H Q) (td σ H fun x H1 => ty σ H1 fun y H2 => DgOn x y H2 Q) := ⟨r_dget⟩
theorem r_dgOwn (h : LdAt H D T) (q : Q (.ref D.ow) H) : DgOn (.ref D.d) (.str "owners") H Q := ⟨D.d, _, rfl, DGet.k (k := .inr "owners") h.dic, q⟩
theorem r_dgLin (h : LdAt H D T) (q : Q (.ref D.li) H) : DgOn (.ref D.d) (.str "lines") H Q := ⟨D.d, _, rfl, DGet.k (k := .inr "lines") h.dic, q⟩
theorem r_dgTim (h : LdAt H D T) (q : Q (.ref D.ti) H) : DgOn (.ref D.d) (.str "times") H Q := ⟨D.d, _, rfl, DGet.k (k := .inr "times") h.dic, q⟩
theorem r_dgWan (h : LdAt H D T) (q : Q (.ref D.wa) H) : DgOn (.ref D.d) (.str "wants") H Q := ⟨D.d, _, rfl, DGet.k (k := .inr "wants") h.dic, q⟩
theorem r_dgRou (h : LdAt H D T) (q : Q (.ref D.ro) H) : DgOn (.ref D.d) (.str "rounds") H Q := ⟨D.d, _, rfl, DGet.k (k := .inr "rounds") h.dic, q⟩
theorem l_ixOwn (h : LdAt H D T) {l : Nat} (hl : l < T.m) (q : Q (oV (T.ow l)) H) : rIxL K (.ref D.ow) (.int (l : Int)) H Q := r_ixl h.own (map_at hl) q
theorem l_ixTim (h : LdAt H D T) {l : Nat} (hl : l < T.m) (q : Q (.int (T.ti l : Int)) H) : rIxL K (.ref D.ti) (.int (l : Int)) H Q := r_ixl h.tim (map_at (f := nV) (by rw [h.sz.ti]; exact hl)) q
theorem l_ixWan (h : LdAt H D T) {l : Nat} (hl : l < T.n) (q : Q (oV (T.wa l)) H) : rIxL K (.ref D.wa) (.int (l : Int)) H Q := r_ixl h.wan (map_at hl) q
theorem l_ixRou (h : LdAt H D T) {l : Nat} (hl : l < T.n) (q : Q (.int (T.ro l : Int)) H) : rIxL K (.ref D.ro) (.int (l : Int)) H Q := r_ixl h.rou (map_at (f := nV) (by rw [h.sz.ro]; exact hl)) q
theorem l_ixLin (h : LdAt H D T) {l : Nat} (hl : l < T.m) (q : ∀ a, H a = some (.lst ((T.ln l).map nV)) → ¬ D.bad a → Q (.ref a) H) : rIxL K (.ref D.li) (.int (l : Int)) H Q := by
  obtain ⟨as, a1, a2, a3⟩ := h.lin
  have hl' : l < as.length := by rw [a2, h.sz.li]; exact hl
  have e := List.getElem?_eq_getElem hl'
  exact r_ixl a1 (by rw [List.getElem?_map, e]; rfl) (q _ (a3 _ _ e).1 (a3 _ _ e).2)
theorem l_lenWan (h : LdAt H D T) (q : Q (.int (T.n : Int)) H) : rLenQ K [V.ref D.wa] H Q := ⟨D.wa, _, rfl, .inl (SqL.of h.wan), by rw [List.length_map]; exact q⟩
theorem l_lenOwn (h : LdAt H D T) (q : Q (.int (T.m : Int)) H) : rLenQ K [V.ref D.ow] H Q := ⟨D.ow, _, rfl, .inl (SqL.of h.own), by rw [List.length_map]; exact q⟩
theorem l_setOwn (h : LdAt H D T) {l : Nat} (hl : l < T.m) (o : Option Nat) (q : ∀ H', LdAt H' D { T with own := T.own.set l o } → Fr D.foot H H' → QH H') : rSetL (.ref D.ow) (.int (l : Int)) (oV o) H QH := by
  obtain ⟨⟨p1, p2, p3, p4, p5⟩, ⟨l1, l2, l3, l4⟩, ⟨o1, o2, o3⟩, ⟨t1, t2⟩, w1⟩ := h.ne
  have hb : D.foot D.ow := by simp [LA.foot]
  refine r_setl h.own (by rw [List.length_map]; exact hl) (q _ ?_ (h.put hb))
  exact h.upd1 hb p1.symm (fun z => absurd rfl z) (fun _ => by rw [map_set]) (fun _ => rfl) (fun z => absurd z l2) (fun _ => rfl) (fun z => absurd z l3) (fun _ => rfl) (fun z => absurd z l4) rfl l1 (h.sz.congr rfl (by simp [Tb.m]) rfl rfl rfl)
theorem l_setTim (h : LdAt H D T) {l : Nat} (hl : l < T.m) (o : Nat) (q : ∀ H', LdAt H' D { T with tim := T.tim.set l o } → Fr D.foot H H' → QH H') : rSetL (.ref D.ti) (.int (l : Int)) (nV o) H QH := by
  obtain ⟨⟨p1, p2, p3, p4, p5⟩, ⟨l1, l2, l3, l4⟩, ⟨o1, o2, o3⟩, ⟨t1, t2⟩, w1⟩ := h.ne
  have hb : D.foot D.ti := by simp [LA.foot]
  refine r_setl h.tim (by rw [List.length_map, h.sz.ti]; exact hl) (q _ ?_ (h.put hb))
  exact h.upd1 hb p3.symm (fun _ => rfl) (fun z => absurd z.symm l2) (fun z => absurd rfl z) (fun _ => by rw [map_set]) (fun _ => rfl) (fun z => absurd z t1) (fun _ => rfl) (fun z => absurd z t2) rfl o1.symm (h.sz.congr rfl rfl rfl (by simp) rfl)
theorem l_setWan (h : LdAt H D T) {l : Nat} (hl : l < T.n) (o : Option Nat) (q : ∀ H', LdAt H' D { T with wan := T.wan.set l o } → Fr D.foot H H' → QH H') : rSetL (.ref D.wa) (.int (l : Int)) (oV o) H QH := by
  obtain ⟨⟨p1, p2, p3, p4, p5⟩, ⟨l1, l2, l3, l4⟩, ⟨o1, o2, o3⟩, ⟨t1, t2⟩, w1⟩ := h.ne
  have hb : D.foot D.wa := by simp [LA.foot]
  refine r_setl h.wan (by rw [List.length_map]; exact hl) (q _ ?_ (h.put hb))
  exact h.upd1 hb p4.symm (fun _ => rfl) (fun z => absurd z.symm l3) (fun _ => rfl) (fun z => absurd z.symm t1) (fun z => absurd rfl z) (fun _ => by rw [map_set]) (fun _ => rfl) (fun z => absurd z w1) rfl o2.symm (h.sz.congr (by simp [Tb.n]) rfl rfl rfl rfl)
theorem l_setRou (h : LdAt H D T) {l : Nat} (hl : l < T.n) (o : Nat) (q : ∀ H', LdAt H' D { T with rou := T.rou.set l o } → Fr D.foot H H' → QH H') : rSetL (.ref D.ro) (.int (l : Int)) (nV o) H QH := by
  obtain ⟨⟨p1, p2, p3, p4, p5⟩, ⟨l1, l2, l3, l4⟩, ⟨o1, o2, o3⟩, ⟨t1, t2⟩, w1⟩ := h.ne
  have hb : D.foot D.ro := by simp [LA.foot]
  refine r_setl h.rou (by rw [List.length_map, h.sz.ro]; exact hl) (q _ ?_ (h.put hb))
  exact h.upd1 hb p5.symm (fun _ => rfl) (fun z => absurd z.symm l4) (fun _ => rfl) (fun z => absurd z.symm t2) (fun _ => rfl) (fun z => absurd z.symm w1) (fun z => absurd rfl z) (fun _ => by rw [map_set]) rfl o3.symm (h.sz.congr rfl rfl rfl rfl (by simp))
/-- a line is another list -/
theorem l_setLin (h : LdAt H D T) {l : Nat} {a : Addr} {xs : List Nat} (hl : l < T.m) (ha : H a = some (.lst (xs.map nV))) (nb : ¬ D.bad a) (q : ∀ H', LdAt H' D (T.line l xs) → Fr D.foot H H' → QH H') : rSetL (.ref D.li) (.int (l : Int)) (.ref a) H QH := by
  obtain ⟨as, a1, a2, a3⟩ := h.lin
  obtain ⟨⟨p1, p2, p3, p4, p5⟩, ⟨l1, l2, l3, l4⟩, ⟨o1, o2, o3⟩, ⟨t1, t2⟩, w1⟩ := h.ne
  have hb : D.foot D.li := by simp [LA.foot]
  have hl2 : l < T.lin.length := by rw [h.sz.li]; exact hl
  refine r_setl a1 (by rw [List.length_map, a2]; exact hl2) (q _ ?_ (h.put hb))
  have em : (as.map V.ref).set l (V.ref a) = (as.set l a).map V.ref := List.map_set.symm
  rw [em]
  have nli : ∀ {x : Addr}, ¬ D.bad x → x ≠ D.li := fun hx z => hx (h.own_bad _ (by rw [z]; simp [LA.has]))
  refine ⟨(upd_ne p2).trans h.dic, (upd_ne l1).trans h.own, (upd_ne o1.symm).trans h.tim, (upd_ne o2.symm).trans h.wan, (upd_ne o3.symm).trans h.rou, ⟨as.set l a, upd_same, by rw [List.length_set, a2]; unfold Tb.line; simp, fun i b e => ?_⟩, h.nd, fun c hc z => ?_, h.own_bad, h.sz.line⟩
  · rw [List.getElem?_set] at e
    rw [ln_line hl2]
    by_cases q : l = i
    · rw [if_pos q, if_pos (by rw [a2]; exact hl2)] at e
      have eb : a = b := Option.some.inj e
      rw [← eb, if_pos q.symm]
      exact ⟨(upd_ne (nli nb)).trans ha, nb⟩
    · rw [if_neg q] at e
      rw [if_neg (fun z => q z.symm)]
      exact ⟨(upd_ne (nli (a3 i b e).2)).trans (a3 i b e).1, (a3 i b e).2⟩
  · by_cases q : c = D.li
    · rw [q, upd_same] at z; cases z
    · rw [upd_ne q] at z; exact h.old c hc z
end
end AL

namespace AL
open PySem PySem.Spec PyProof.Rows L2
/-! # further readings; the promises of the law's own helpers -/
section
variable {X : Cx} {K : PySem.W.Frag}
/-- an item of a list or a tuple -/
def rIxQ (K : PySem.W.Frag) : R2 := fun x i H Q => rIxL K x i H Q ∨ rIxT K x i H Q
theorem k_ixq (hK : X.K = K) : IxR X (rIxQ K) := by
  subst hK
  intro e1 e2 pins s σ H x y v u Q I rx ry h
  rcases h with h | h
  · exact ix_list e1 e2 pins s σ H x y v u Q I rx ry h
  · exact ix_tup e1 e2 pins s σ H x y v u Q I rx ry h
end
section
variable {K : PySem.W.Frag} {σ : L2.St} {H : Hp} {Q : VK} {D : Ends} {tb : TS} {ta : L2.TA} {tl te td : TE} {j n : Nat} {x v : V} {tt : TT}
/-! ### loops -/
theorem r_forR (hn : n ≤ 1000) (ha : ∀ Q : List V → Hp → Prop, Q [.int (n : Int)] H → ta σ H Q) (Pv : Nat → L2.St → Hp → Prop) (h0 : Pv 0 σ H)
    (hs : ∀ (i : Nat) σ' H', i < n → Pv i σ' H' → tb { D with nx := Pv (i + 1), ct := Pv (i + 1), bk := D.nx } (σ'.set j (some (.int (i : Int)))) H') (hd : ∀ σ' H', Pv n σ' H' → D.nx σ' H') : tFor (iRng1 ta) (gName j) tb D σ H := by
  refine ha _ ⟨(n : Int), rfl, by omega, by omega, ?_⟩
  have en : ((n : Int)).toNat = n := by omega
  rw [en]
  refine for_range (lo := 0) (n := n) Pv h0 (fun i σ' H' hi p => ?_) hd
  have e0 : (0 : Int) + (i : Int) = (i : Int) := Int.zero_add _
  rw [e0]
  exact hs i σ' H' hi p
theorem r_forL {a : Addr} {xs : List V} (ha : ∀ Q : VK, Q (.ref a) H → tl σ H Q) (hx : SqL K H a xs) (Pv : Nat → L2.St → Hp → Prop) (h0 : Pv 0 σ H) (hl : ∀ i σ' H', i ≤ xs.length → Pv i σ' H' → SqL K H' a xs)
    (hs : ∀ i x σ' H', xs[i]? = some x → Pv i σ' H' → tb { D with nx := Pv (i + 1), ct := Pv (i + 1), bk := D.nx } (σ'.set j (some x)) H') (hd : ∀ σ' H', Pv xs.length σ' H' → D.nx σ' H') : tFor (iList K tl) (gName j) tb D σ H :=
  ha _ ⟨a, rfl, ⟨xs, hx⟩, for_list Pv h0 hl hs hd⟩
theorem r_andV (h : te σ H fun x H1 => ∃ c, x = .bl c ∧ if c = true then td σ H1 Q else Q (.bl false) H1) : tAndV te td σ H Q := h
instance i_andV  : Stp (tAndV te td σ H Q) (te σ H fun x H1 => ∃ c, x = .bl c ∧ if c = true then td σ H1 Q else Q (.bl false) H1) := ⟨r_andV⟩
theorem r_orV (h : te σ H fun x H1 => ∃ c, x = .bl c ∧ if c = true then Q (.bl true) H1 else td σ H1 Q) : tOrV te td σ H Q := h
instance i_orV  : Stp (tOrV te td σ H Q) (te σ H fun x H1 => ∃ c, x = .bl c ∧ if c = true then Q (.bl true) H1 else td σ H1 Q) := ⟨r_orV⟩
theorem r_notV (h : te σ H fun x H1 => ∃ c, x = .bl c ∧ Q (.bl (!c)) H1) : tNotV te σ H Q := h
instance i_notV  : Stp (tNotV te σ H Q) (te σ H fun x H1 => ∃ c, x = .bl c ∧ Q (.bl (!c)) H1) := ⟨r_notV⟩
theorem r_Tn {A B : Prop} (h : A) : if (!false) = true then A else B := by rw [Bool.not_false, if_pos rfl]; exact h
instance i_Tn {A B : Prop} : Stp (if (!false) = true then A else B) (A) := ⟨r_Tn⟩
theorem r_Fn {A B : Prop} (h : B) : if (!true) = true then A else B := by rw [Bool.not_true, if_neg Bool.false_ne_true]; exact h
instance i_Fn {A B : Prop} : Stp (if (!true) = true then A else B) (B) := ⟨r_Fn⟩
/-! ### isinstance -/
theorem r_isi {a b : String} (r : Bool) (ty : TyX K H x (.type a)) (h : kitB a b = some r) (q : Q (.bl r) H) : rIsi K [x, .ty b] H Q := ⟨x, .ty b, .type a, .type b, r, rfl, .ty b, ty, kit_ty h, q⟩
theorem r_isi2 {a b c : String} {tp : Addr} (r s t : Bool) (ty : TyX K H x (.type a)) (ht : H tp = some (.tup [.ty b, .ty c])) (h1 : kitB a b = some r) (h2 : kitB a c = some s) (e : (r || s) = t) (q : Q (.bl t) H) : rIsiT K [x, .ref tp] H Q := by
  subst e
  refine ⟨x, tp, _, .type a, [.type b, .type c], r || s, rfl, ht, .cons (.ty b) (.cons (.ty c) .nil), ty, ?_, q⟩
  refine kitAny_cons (kit_ty h1) (fun e => ?_) (fun e => by rw [e]; rfl)
  rw [e, Bool.false_or]
  refine kitAny_cons (kit_ty h2) (fun e => by rw [e]; rfl) (fun e => e)
end
def tyD : PyData → String
  | .none => "NoneType" | .bool _ => "bool" | .int _ => "int" | .str _ => "str" | .list _ => "list" | .tuple _ => "tuple" | .dict _ => "dict"
/-! ### data of tuples and lists -/
mutual
inductive Dd (H : Hp) : V → PyData → Prop
  | non : Dd H .non .none
  | bl (b : Bool) : Dd H (.bl b) (.bool b)
  | int (i : Int) : Dd H (.int i) (.int i)
  | str (x : Str) : Dd H (.str x) (.str x)
  | tup {a : Addr} {xs : List V} {ds : List PyData} : H a = some (.tup xs) → xs.length ≤ 1000 → DdAll H xs ds → Dd H (.ref a) (.tuple ds)
  | lst {a : Addr} {xs : List V} {ds : List PyData} : H a = some (.lst xs) → xs.length ≤ 1000 → DdAll H xs ds → Dd H (.ref a) (.list ds)
inductive DdAll (H : Hp) : List V → List PyData → Prop
  | nil : DdAll H [] []
  | cons {v : V} {vs : List V} {d : PyData} {ds : List PyData} : Dd H v d → DdAll H vs ds → DdAll H (v :: vs) (d :: ds)
end
mutual
theorem Dd.fr {H H' : Hp} (f : Fr No H H') : ∀ {v : V} {d : PyData}, Dd H v d → Dd H' v d
  | _, _, .non => .non
  | _, _, .bl b => .bl b
  | _, _, .int i => .int i
  | _, _, .str x => .str x
  | _, _, .tup h l r => .tup (f.tup _ _ h) l (DdAll.fr f r)
  | _, _, .lst h l r => .lst (f.lst h) l (DdAll.fr f r)
theorem DdAll.fr {H H' : Hp} (f : Fr No H H') : ∀ {vs : List V} {ds : List PyData}, DdAll H vs ds → DdAll H' vs ds
  | _, _, .nil => .nil
  | _, _, .cons h r => .cons (Dd.fr f h) (DdAll.fr f r)
end
theorem DdAll.len {H : Hp} : ∀ {vs : List V} {ds : List PyData}, DdAll H vs ds → vs.length = ds.length
  | _, _, .nil => rfl
  | _, _, .cons _ r => by simp [DdAll.len r]
theorem DdAll.at {H : Hp} : ∀ {vs : List V} {ds : List PyData} {i : Nat}, DdAll H vs ds → i < ds.length → ∃ v d, vs[i]? = some v ∧ ds[i]? = some d ∧ Dd H v d
  | _, _, _, .nil, h => absurd h (Nat.not_lt_zero _)
  | _, _, 0, .cons h _, _ => ⟨_, _, rfl, rfl, h⟩
  | _, _, i + 1, .cons _ r, h => DdAll.at (i := i) r (by simpa using h)
/-- small data: every tuple of it, tracked -/
def Sml (d : PyData) : Prop := ∀ {H : Hp} {v : V}, Td H v d → Dd H v d
theorem Dd.ty {K : PySem.W.Frag} {H : Hp} {v : V} {d : PyData} (h : Dd H v d) : TyX K H v (.type (tyD d)) := by
  cases h with
  | non => exact .base .non
  | bl b => exact .base (.bl b)
  | int i => exact .base (.int i)
  | str x => exact .base (.str x)
  | tup h _ _ => exact .base (.tup h)
  | lst h _ _ => exact .base (.lst h)
theorem depth_at : ∀ {ds : List PyData} {i : Nat} {d : PyData}, ds[i]? = some d → d.depth ≤ PyData.depthAll ds
  | [], _, _, h => by simp at h
  | x :: r, 0, d, h => by
    have : x = d := Option.some.inj h
    rw [this]
    unfold PyData.depthAll
    exact Nat.le_max_left _ _
  | x :: r, i + 1, d, h => by
    have := depth_at (ds := r) (i := i) (d := d) (by simpa using h)
    unfold PyData.depthAll
    exact Nat.le_trans this (Nat.le_max_right _ _)
/-- both tell the same data, of a depth below n -/
abbrev sp_Lsame (n : Nat) : Sp := sp2 fun x y H Q E => ∃ d, Dd H x d ∧ Dd H y d ∧ d.depth < n ∧ ∀ H', Fr No H H' → Q (.bl true) H'
section
variable {K : PySem.W.Frag} {H : Hp} {Q : VK} {x v : V}
theorem dd_o (o : Option Nat) : Dd H (oV o) (oD o) := by
  cases o with
  | none => exact .non
  | some n => exact .int _
theorem td_dd_all (h : ∀ v d, Td H v d → Dd H v d) : ∀ {vs : List V} {ds : List PyData}, TdAll H vs ds → DdAll H vs ds
  | _, _, .nil => .nil
  | _, _, .cons a r => .cons (h _ _ a) (td_dd_all h r)
theorem dd_nats : ∀ xs : List Nat, DdAll H (xs.map nV) (xs.map fun x : Nat => PyData.int (x : Int))
  | [] => .nil
  | x :: r => .cons (.int _) (dd_nats r)
theorem dd_natsL {p : Addr} {xs : List Nat} (h : H p = some (.lst (xs.map nV))) (hl : xs.length ≤ 1000) : Dd H (.ref p) (.list (xs.map fun x : Nat => PyData.int (x : Int))) := .lst h (by rw [List.length_map]; exact hl) (dd_nats xs)
end

theorem Fr.mutO {S : Addr → Prop} {H H1 H2 : Hp} {p : Addr} (f : Fr S H H1) (g : Fr (Only1 p) H1 H2) (h : H p = none) : Fr S H H2 := ⟨fun b o e n => g.old b o (f.old b o e n) (fun z => by rw [z, h] at e; cases e), fun b xs e => g.tup b xs (f.tup b xs e), fun b e => f.thr b (g.thr b e)⟩
section
variable {K : PySem.W.Frag} {σ : L2.St} {H : Hp} {Q : VK} {trs : List (TE × TE)} {tk tv : TE} {QP : List (V × V) → Hp → Prop} {QH : Hp → Prop}
/-! ### the display of a dict -/
def DispE (p : Addr) (Q : VK) (ps : List (V × V)) (H2 : Hp) : Prop := H2 p = some (.dK []) ∧ ∃ kvs : List (Key × V), ps = kvs.map (fun kv => (kV kv.1, kv.2)) ∧ kvs.length ≤ 15 ∧ Q (.ref p) (upd H2 p (.dK (mergeK [] kvs)))
theorem r_disp (h : ∀ p H1, H p = none → H1 p = some (.dK []) → Fr No H H1 → tPairs trs σ H1 (DispE p Q)) : tDisp trs σ H Q := fun p hp => h p _ hp upd_same (Fr.new hp)
theorem r_pair (h : tk σ H fun x H1 => tv σ H1 fun y H2 => tPairs trs σ H2 fun ps H3 => QP ((x, y) :: ps) H3) : tPairs ((tk, tv) :: trs) σ H QP := h
instance i_pair  : Stp (tPairs ((tk, tv) :: trs) σ H QP) (tk σ H fun x H1 => tv σ H1 fun y H2 => tPairs trs σ H2 fun ps H3 => QP ((x, y) :: ps) H3) := ⟨r_pair⟩
theorem r_pairN (h : QP [] H) : tPairs [] σ H QP := h
instance i_pairN  : Stp (tPairs [] σ H QP) (QP [] H) := ⟨r_pairN⟩
theorem r_dispE {p : Addr} {ps : List (V × V)} (kvs : List (Key × V)) (e : H p = some (.dK [])) (hps : ps = kvs.map (fun kv => (kV kv.1, kv.2))) (hl : kvs.length ≤ 15) (q : ∀ H3, H3 p = some (.dK (mergeK [] kvs)) → Fr (Only1 p) H H3 → Q (.ref p) H3) : DispE p Q ps H :=
  ⟨e, kvs, hps, hl, q _ upd_same (Fr.put e (fun xs z => by cases z))⟩
theorem r_tyD {a : Addr} {kvs : List (Key × V)} {G : Prop} (h : H a = some (.dK kvs)) (g : G) : tyV K "dict" (.ref a) H ∧ G := ⟨.inr (.inr (.inl ⟨rfl, .inl ⟨_, h⟩⟩)), g⟩
theorem r_updD {a b : Addr} {kvs more : List (Key × V)} (ea : H a = some (.dK kvs)) (eb : H b = some (.dK more)) (ne : a ≠ b) (hl : kvs.length + more.length ≤ 1000) (q : ∀ H', H' a = some (.dK (mergeK kvs more)) → Fr (Only1 a) H H' → Q .non H') : rUpdD (.ref a) [.ref b] H Q :=
  ⟨a, b, kvs, more, rfl, rfl, ea, eb, ne, hl, q _ upd_same (Fr.put ea (fun xs z => by cases z))⟩
theorem set_getD {α : Type} {xs : List α} {i : Nat} {d : α} : xs.set i (xs.getD i d) = xs := by
  by_cases h : i < xs.length
  · rw [List.getD_eq_getElem?_getD, List.getElem?_eq_getElem h]
    exact List.set_getElem_self h
  · exact List.set_eq_of_length_le (by omega)
theorem l_setTimE {D : LA} {T : Tb} (h : LdAt H D T) {l : Nat} (hl : l < T.m) (o : Nat) {v : V} (e : v = nV o) (q : ∀ H', LdAt H' D { T with tim := T.tim.set l o } → Fr D.foot H H' → QH H') : rSetL (.ref D.ti) (.int (l : Int)) v H QH := by
  rw [e]
  exact l_setTim h hl o q
end
section
variable {K : PySem.W.Frag} {σ : L2.St} {H : Hp} {Q : VK}
theorem r_cat {a b : Addr} {xs zs : List V} (ha : H a = some (.lst xs)) (hb : H b = some (.lst zs)) (hl : xs.length + zs.length ≤ 1000) (q : ∀ p H', H p = none → H' p = some (.lst (xs ++ zs)) → Fr No H H' → Q (.ref p) H') : rCat (.ref a) (.ref b) H Q := ⟨a, b, xs, zs, rfl, rfl, ha, hb, Nat.le_of_lt (small1000 hl), r_new q⟩
/-- xs[1:] -/
theorem r_tail {a : Addr} {xs : List V} (ha : H a = some (.lst xs)) (q : ∀ p H', H p = none → H' p = some (.lst xs.tail) → Fr No H H' → Q (.ref p) H') : rSlL K (.ref a) (some 1) none H Q := by
  have e : cutV xs (some 1) none = xs.tail := by
    cases xs with
    | nil => rfl
    | cons x r => simp [cutV, HT.sIx] <;> omega
  exact ⟨a, xs, rfl, SqL.of ha, by rw [e]; exact r_new q⟩
theorem r_slc {r : V → Option Int → Option Int → Hp → VK → Prop} {te : TE} {a b : L2.St → Hp → (Option Int → Hp → Prop) → Prop} (h : te σ H fun x H1 => a σ H1 fun lo H2 => b σ H2 fun hi H3 => r x lo hi H3 Q) : tSl r te a b σ H Q := h
instance i_slc {r : V → Option Int → Option Int → Hp → VK → Prop} {te : TE} {a b : L2.St → Hp → (Option Int → Hp → Prop) → Prop} : Stp (tSl r te a b σ H Q) (te σ H fun x H1 => a σ H1 fun lo H2 => b σ H2 fun hi H3 => r x lo hi H3 Q) := ⟨r_slc⟩
theorem r_noPart {QP : Option Int → Hp → Prop} (h : QP none H) : tNoPart σ H QP := h
instance i_noPart {QP : Option Int → Hp → Prop} : Stp (tNoPart σ H QP) (QP none H) := ⟨r_noPart⟩
theorem r_part {te : TE} {QP : Option Int → Hp → Prop} (h : te σ H fun x H1 => ∃ i, x = .int i ∧ QP (some i) H1) : tPart te σ H QP := h
instance i_part {te : TE} {QP : Option Int → Hp → Prop} : Stp (tPart te σ H QP) (te σ H fun x H1 => ∃ i, x = .int i ∧ QP (some i) H1) := ⟨r_part⟩
theorem r_partI {i : Int} {QP : Int → Prop} (h : QP i) : ∃ j, V.int i = .int j ∧ QP j := ⟨i, rfl, h⟩
instance i_partI {i : Int} {QP : Int → Prop} : Stp (∃ j, V.int i = .int j ∧ QP j) (QP i) := ⟨r_partI⟩
theorem ixc {xs : List V} {v w : V} (h : (xs ++ [v])[0]? = some w) : w = xs.headD v := by
  cases xs with
  | nil => exact (Option.some.inj h).symm
  | cons x r => exact (Option.some.inj h).symm
theorem head_cat {xs : List V} {v : V} : (xs ++ [v])[0]? = some (xs.headD v) := by
  cases xs <;> rfl
theorem headD_o {xs : List Nat} : (xs.map nV).headD .non = oV xs.head? := by cases xs <;> rfl
end
/-- one more object that is none of the lines -/
def LA.more (D : LA) (p : Addr) : LA := { D with bad := fun b => D.bad b ∨ b = p }
theorem LdAt.more {H H' : Hp} {D : LA} {T : Tb} {p : Addr} (h : LdAt H D T) (hp : H p = none) (f : Fr No H H') (e : H' p ≠ none) : LdAt H' (D.more p) T := by
  have h' := h.fr0 f
  obtain ⟨as, a1, a2, a3⟩ := h'.lin
  obtain ⟨as0, b1, b2, b3⟩ := h.lin
  refine ⟨h'.dic, h'.own, h'.tim, h'.wan, h'.rou, ⟨as, a1, a2, fun i a ea => ⟨(a3 i a ea).1, fun z => ?_⟩⟩, h'.nd, fun b hb z => ?_, fun b hb => .inl (h.own_bad b hb), h.sz⟩
  · rcases z with z | z
    · exact (a3 i a ea).2 z
    · have e1 := f.lst b1
      have e2 : H' D.li = some (.lst (as.map V.ref)) := a1
      rw [e1] at e2
      have e3 : as0.map V.ref = as.map V.ref := by
        have := Option.some.inj e2
        injection this
      have e4 : as0 = as := List.map_inj_right (fun x y q => V.ref.inj q) |>.mp e3
      have := (b3 i a (by rw [e4]; exact ea)).1
      rw [z, hp] at this
      cases this
  · rcases hb with hb | hb
    · exact h'.old b hb z
    · exact e (hb ▸ z)
theorem LdAt.less {H : Hp} {D : LA} {T : Tb} {p : Addr} (h : LdAt H (D.more p) T) (ob : ∀ b, D.has b → D.bad b) : LdAt H D T := by
  obtain ⟨as, a1, a2, a3⟩ := h.lin
  exact ⟨h.dic, h.own, h.tim, h.wan, h.rou, ⟨as, a1, a2, fun i a ea => ⟨(a3 i a ea).1, fun z => (a3 i a ea).2 (.inl z)⟩⟩, h.nd, fun b hb => h.old b (.inl hb), ob, h.sz⟩
theorem LdAt.mut {H H' : Hp} {D : LA} {T : Tb} {p : Addr} (h : LdAt H (D.more p) T) (f : Fr (Only1 p) H H') (n : ¬ D.has p) : LdAt H' (D.more p) T := h.fr f (fun b hb => .inr hb) (fun b hb z => n (z ▸ hb))
theorem turns_list {α : Type} (xs : List α) (d0 : α) (p : α → Bool) (g : α → PyData) : turns (fun i => p (xs.getD i d0)) (fun i => g (xs.getD i d0)) xs.length = (xs.filter p).map g := by
  unfold turns
  have e : (List.range xs.length).map (fun i => xs.getD i d0) = xs := by
    refine List.ext_getElem (by simp) fun i h1 h2 => ?_
    rw [List.getElem_map, List.getElem_range, List.getD_eq_getElem?_getD, List.getElem?_eq_getElem h2]
    rfl
  have e2 : (xs.filter p).map g = (((List.range xs.length).map (fun i => xs.getD i d0)).filter p).map g := by rw [e]
  rw [e2, List.filter_map, List.map_map]
  rfl
theorem l_lineAt {K : PySem.W.Frag} {H : Hp} {D : LA} {T : Tb} (h : LdAt H D T) {l : Nat} (hl : l < T.m) : ∃ b, H b = some (.lst ((T.ln l).map nV)) ∧ ¬ D.bad b ∧ ∀ Q : VK, Q (.ref b) H → rIxL K (.ref D.li) (.int (l : Int)) H Q := by
  obtain ⟨as, a1, a2, a3⟩ := h.lin
  have hl' : l < as.length := by rw [a2, h.sz.li]; exact hl
  have e := List.getElem?_eq_getElem hl'
  exact ⟨_, (a3 _ _ e).1, (a3 _ _ e).2, fun Q q => r_ixl a1 (by rw [List.getElem?_map, e]; rfl) q⟩
theorem oD_depth (o : Option Nat) : (oD o).depth = 0 := by cases o <;> rfl
theorem nats_depth : ∀ xs : List Nat, PyData.depthAll (xs.map fun x : Nat => PyData.int (x : Int)) = 0
  | [] => by simp [PyData.depthAll]
  | x :: r => by
    have := nats_depth r
    simp only [List.map_cons, PyData.depthAll, PyData.depth, this]
    rfl
/-- what is given so far by one that leaves -/
structure LvD (D : LA) (T : Tb) (H : Hp) (P : Addr) (ls : List Nat) (H' : Hp) : Prop where
  fr : Fr D.foot H H'
  at_ : LsAt H' P (gone (Tb.passAll ls T).1)
  tb : LdAt H' (D.more P) (Tb.passAll ls T).2
/-! ### results -/
inductive Out where
  | b (x : Bool)
  | o (x : Option Nat)
  | g (rs : List (Nat × Option Nat))
def Out.d : Out → PyData
  | .b x => .bool x
  | .o x => oD x
  | .g rs => .list (gone rs)
def resD : Except Wd Out → PyData
  | .error w => .str w.str
  | .ok o => o.d
def OutAt (H H0 : Hp) (v : V) : Out → Prop
  | .b x => v = .bl x
  | .o x => v = oV x
  | .g rs => ∃ p, v = .ref p ∧ H0 p = none ∧ LsAt H p (gone rs) ∧ rs.length ≤ 100
def ResAt (H H0 : Hp) (v : V) : Except Wd Out → Prop
  | .error w => v = .str w.str
  | .ok o => OutAt H H0 v o
theorem gone_len (rs : List (Nat × Option Nat)) : (gone rs).length = rs.length := List.length_map _
theorem td_gone {H : Hp} : ∀ {rs : List (Nat × Option Nat)} {vs : List V}, TdAll H vs (gone rs) → DdAll H vs (gone rs)
  | [], _, h => by cases h; exact .nil
  | r :: rs, _, h => by
    cases h with
    | cons h1 h2 =>
      refine .cons ?_ (td_gone h2)
      cases h1 with
      | tup e a =>
        refine .tup e ?_ ?_
        · rw [a.len]
          show 2 ≤ 1000
          decide
        · cases a with
          | cons a1 a2 =>
            cases a2 with
            | cons b1 b2 =>
              cases b2
              refine .cons ?_ (.cons ?_ .nil)
              · cases a1; exact .int _
              · cases q : r.2 with
                | none => rw [q] at b1; cases b1; exact .non
                | some n => rw [q] at b1; cases b1; exact .int _
theorem OutAt.dd {H H0 : Hp} {v : V} {o : Out} (h : OutAt H H0 v o) : Dd H v o.d := by
  cases o with
  | b x => rw [show v = .bl x from h]; exact .bl x
  | o x => rw [show v = oV x from h]; exact dd_o x
  | g rs =>
    obtain ⟨p, rfl, _, ⟨vs, h1, h2⟩, hl⟩ := h
    exact .lst h1 (by rw [h2.len, gone_len]; omega) (td_gone h2)
theorem ResAt.dd {H H0 : Hp} {v : V} {r : Except Wd Out} (h : ResAt H H0 v r) : Dd H v (resD r) := by
  cases r with
  | error w => rw [show v = .str w.str from h]; exact .str _
  | ok o => exact OutAt.dd h
theorem OutAt.fr {S : Addr → Prop} {H H' H0 : Hp} {v : V} {o : Out} (h : OutAt H H0 v o) (f : Fr S H H') (n : ∀ p, S p → H0 p ≠ none) : OutAt H' H0 v o := by
  cases o with
  | b x => exact h
  | o x => exact h
  | g rs =>
    obtain ⟨p, h1, h0, h2, hl⟩ := h
    exact ⟨p, h1, h0, h2.fr f (fun z => n p z h0), hl⟩
theorem ResAt.fr {S : Addr → Prop} {H H' H0 : Hp} {v : V} {r : Except Wd Out} (h : ResAt H H0 v r) (f : Fr S H H') (n : ∀ p, S p → H0 p ≠ none) : ResAt H' H0 v r := by
  cases r with
  | error w => exact h
  | ok o => exact OutAt.fr h f n
theorem gone_depth : ∀ rs : List (Nat × Option Nat), PyData.depthAll (gone rs) ≤ 1
  | [] => by simp [gone, PyData.depthAll]
  | r :: rs => by
    have ih := gone_depth rs
    show PyData.depthAll (PyData.tuple [PyData.int (r.1 : Int), oD r.2] :: gone rs) ≤ 1
    have e : (oD r.2).depth = 0 := by cases r.2 <;> rfl
    simp only [PyData.depthAll, PyData.depth, e]
    omega
theorem resD_depth (r : Except Wd Out) : (resD r).depth < 8 := by
  cases r with
  | error w => exact Nat.lt_of_le_of_lt (Nat.le_refl 0) (by decide)
  | ok o =>
    cases o with
    | b x => exact Nat.lt_of_le_of_lt (Nat.le_refl 0) (by decide)
    | o x => cases x <;> exact Nat.lt_of_le_of_lt (Nat.le_refl 0) (by decide)
    | g rs =>
      show PyData.depth (.list (gone rs)) < 8
      have := gone_depth rs
      simp only [PyData.depth]
      omega
/-! ### the law's own table -/
abbrev sp_Ltable (K : PySem.W.Frag) : Sp := sp2 fun x y H Q E => ∃ n m : Nat, x = .int (n : Int) ∧ y = .int (m : Int) ∧ (Tb.new n m).Sz ∧ ∃ bad : Addr → Prop, (∀ b, bad b → H b ≠ none) ∧
  ∀ D H', LdAt H' D (Tb.new n m) → Fr No H H' → (∀ b, D.has b → H b = none) → (∀ b, D.bad b ↔ (D.has b ∨ bad b)) → Q (.ref D.d) H'
namespace Tb
def got (T : Tb) (o : Option Nat) (l : Nat) : Tb := match o with
  | none => T.free l
  | some a => T.take a l
end Tb
abbrev sp_Lgot (K : PySem.W.Frag) : Sp := sp3 fun x y z H Q E => ∃ D T, ∃ l : Nat, ∃ o : Option Nat, x = .ref D.d ∧ y = oV o ∧ z = .int (l : Int) ∧ LdAt H D T ∧ l < T.m ∧ ∀ H', LdAt H' D (T.got o l) → Fr D.foot H H' → Q .non H'
abbrev sp_Lpassed (K : PySem.W.Frag) : Sp := sp2 fun x z H Q E => ∃ D T, ∃ l : Nat, x = .ref D.d ∧ z = .int (l : Int) ∧ LdAt H D T ∧ l < T.m ∧ (∀ a ∈ T.ln l, a < T.n) ∧ (T.ln l).length ≤ 8 ∧ ∀ H', LdAt H' D (T.pass l) → Fr D.foot H H' → Q (oV (T.heir l)) H'
def fstr : Option Wd → Str
  | none => ""
  | some w => w.str
abbrev sp_Lfault (K : PySem.W.Frag) : Sp := sp3 fun x y z H Q E => ∃ D T a l, x = .ref D.d ∧ y = .int a ∧ z = .int l ∧ LdAt H D T ∧ Q (.str (fstr (T.fault a l))) H
abbrev sp_Lask (K : PySem.W.Frag) : Sp := sp3 fun x y z H Q E => ∃ D T a l, x = .ref D.d ∧ y = .int a ∧ z = .int l ∧ LdAt H D T ∧ T.Wf ∧ (∀ w T', T.askR a l = (.error w, T') → ∀ H', Fr No H H' → Q (.str w.str) H') ∧
  ∀ b T', T.askR a l = (.ok b, T') → ∀ H', LdAt H' D T' → Fr D.foot H H' → Q (.bl b) H'
abbrev sp_Lgive (K : PySem.W.Frag) : Sp := sp3 fun x y z H Q E => ∃ D T a l, x = .ref D.d ∧ y = .int a ∧ z = .int l ∧ LdAt H D T ∧ T.Wf ∧ (∀ w T', T.giveR a l = (.error w, T') → ∀ H', Fr No H H' → Q (.str w.str) H') ∧
  ∀ b T', T.giveR a l = (.ok b, T') → ∀ H', LdAt H' D T' → Fr D.foot H H' → Q (oV b) H'
abbrev sp_Lheld (K : PySem.W.Frag) : Sp := sp2 fun x y H Q E => ∃ D T, ∃ a : Nat, x = .ref D.d ∧ y = .int (a : Int) ∧ LdAt H D T ∧ ∀ p H', H p = none → H' p = some (.lst ((T.held a).map nV)) → Fr No H H' → Q (.ref p) H'
abbrev sp_Lleave (K : PySem.W.Frag) : Sp := sp2 fun x y H Q E => ∃ D T a, x = .ref D.d ∧ y = .int a ∧ LdAt H D T ∧ T.Wf ∧ (∀ w T', T.leaveR a = (.error w, T') → Q (.str w.str) H) ∧
  ∀ b T', T.leaveR a = (.ok b, T') → ∀ p H', LdAt H' D T' → Fr D.foot H H' → H p = none → LsAt H' p (gone b) → Q (.ref p) H'
abbrev sp_Lis (K : PySem.W.Frag) : Sp := sp2 fun x y H Q E => ∃ A D T, x = .ref A.p ∧ y = .ref D.d ∧ TbK K H A T ∧ LdAt H D T ∧ T.Wf ∧ ∀ H', Fr No H H' → Q (.bl true) H'
/-! ### deeds -/
inductive Deed where
  | ask (a l : Int)
  | give (a l : Int)
  | leave (a : Int)
def Deed.vs : Deed → List V
  | .ask a l => [.str "ask", .int a, .int l]
  | .give a l => [.str "give", .int a, .int l]
  | .leave a => [.str "leave", .int a]
def Tb.deedR (T : Tb) : Deed → Except Wd Out × Tb
  | .ask a l => ((T.askR a l).1.map Out.b, (T.askR a l).2)
  | .give a l => ((T.giveR a l).1.map Out.o, (T.giveR a l).2)
  | .leave a => ((T.leaveR a).1.map Out.g, (T.leaveR a).2)
namespace Tb
variable {T T' : Tb} {a l : Int} {w : Wd}
theorem askR_same {w : Wd} (e : T.askR a l = (.error w, T')) : T' = T := by
  unfold askR at e
  split at e
  · cases e; rfl
  · split at e
    · cases e; rfl
    · split at e
      · cases e; rfl
      · split at e <;> cases e
theorem giveR_same {w : Wd} (e : T.giveR a l = (.error w, T')) : T' = T := by
  unfold giveR at e
  split at e
  · cases e; rfl
  · split at e
    · cases e; rfl
    · split at e <;> cases e
      rfl
theorem leaveR_same {w : Wd} (e : T.leaveR a = (.error w, T')) : T' = T := by
  unfold leaveR at e
  split at e <;> cases e
  rfl
theorem leaveR_len {rs : List (Nat × Option Nat)} (W : T.Wf) (e : T.leaveR a = (.ok rs, T')) : rs.length ≤ 100 := by
  unfold leaveR at e
  split at e
  · cases e
    unfold leave
    rw [passAll_len]
    have h1 := held_len (T := T.unwait a.toNat) (a := a.toNat)
    have h2 := W.sz.m12
    rw [unwait_m] at h1
    omega
  · cases e
end Tb
section
variable {K : PySem.W.Frag} {H : Hp} {Q : VK} {v : V}
theorem r_ixt {a : Addr} {xs : List V} {i : Nat} (h : H a = some (.tup xs)) (e : xs[i]? = some v) (q : Q v H) : rIxT K (.ref a) (.int (i : Int)) H Q := ⟨a, _, _, _, rfl, rfl, SqT.of h, atI_nat e, q⟩
end
abbrev sp_Ldeed (K : PySem.W.Frag) : Sp := sp2 fun x y H Q E => ∃ st sc ns D T, x = .ref st ∧ y = .ref D.d ∧ StAt K H st sc ns ∧ ScF K sc ns (Only1 st) ∧ LdAt H D T ∧ D.bad st ∧ ¬ D.has st ∧
  ∀ p (dd : Deed) H', H p = none → H' p = some (.tup dd.vs) → StAt K H' st sc ns → Fr (Only1 st) H H' → Q (.ref p) H'
abbrev sp_Ldue (K : PySem.W.Frag) : Sp := sp2 fun x y H Q E => ∃ D T p, ∃ dd : Deed, x = .ref D.d ∧ y = .ref p ∧ LdAt H D T ∧ T.Wf ∧ H p = some (.tup dd.vs) ∧ ∀ v H', LdAt H' D (T.deedR dd).2 → ResAt H' H v (T.deedR dd).1 → Fr D.foot H H' → Q v H'
abbrev sp_Ldoes (K : PySem.W.Frag) : Sp := sp2 fun x y H Q E => ∃ A T p, ∃ dd : Deed, x = .ref A.p ∧ y = .ref p ∧ TbK K H A T ∧ T.Wf ∧ H p = some (.tup dd.vs) ∧ (∀ w, (T.deedR dd).1 = .error w → eW K w E H) ∧
  ∀ v o H', (T.deedR dd).1 = .ok o → TbK K H' A (T.deedR dd).2 → OutAt H' H v o → Fr A.foot H H' → Q v H'
end AL

namespace AL
open PySem PySem.Spec PyProof.Rows L2
/-! # the refusals' kinds; a lambda's call -/
def Wd.all : List Wd := [.noTable, .noHall, .noAgent, .noLock, .noHouse, .noLetter, .stopped, .waits, .holds, .notHeld, .up]
theorem Wd.mem (w : Wd) : w ∈ Wd.all := by cases w <;> decide
def excB (K : PySem.W.Frag) (D : Addr) : Bool :=
  decide (PySem.W.findIn K (.ref D) "__getattribute__" = some (some (.builtin "BaseException.__getattribute__"))) && (decide (PySem.W.findIn K (.ref D) "__getattr__" = some none) && (decide (PySem.W.subIn K (.ref D) (.type "BaseException") = some true) && (PySem.W.hasDictIn K D && (decide (PySem.W.findIn K (.ref D) "__class__" = some (some (.builtin "object.__class__"))) &&
  (decide (PySem.W.specialIn K (.builtin "object.__class__") "__get__" = some (some (.builtin "getset_descriptor.__get__"))) && (decide (PySem.W.takesIn K (.builtin "object.__class__") = some true) && decide (PySem.W.mroIn K D (.type "object") = some true)))))))
theorem excB_ok {K : PySem.W.Frag} {D : Addr} (h : excB K D = true) : ExcC K D := by
  unfold excB at h
  simp only [Bool.and_eq_true, decide_eq_true_eq] at h
  obtain ⟨h1, h2, h3, h4, h5, h6, h7, h8⟩ := h
  exact ⟨h1, h2, h3, h4, h5, h6, h7, h8⟩
def exB (K : PySem.W.Frag) : Bool := Wd.all.all fun w => excB K (He.ga K w.str) && (decide (PySem.W.kitOne K (w.cls K) (.type "ValueError") = some true) && (decide (PySem.W.exmOne K (w.cls K) (.ref (He.ga K "LockError")) = some true) && Wd.all.all fun w' => decide (PySem.W.kitOne K (w.cls K) (w'.cls K) = some (decide (w = w')))))
structure WdK (K : PySem.W.Frag) : Prop where
  x : ∀ w : Wd, ExcC K (He.ga K w.str)
  v : ∀ w : Wd, PySem.W.kitOne K (.ref (He.ga K w.str)) (.type "ValueError") = some true
  m : ∀ w : Wd, PySem.W.exmOne K (.ref (He.ga K w.str)) (.ref (He.ga K "LockError")) = some true
  w : ∀ w w' : Wd, PySem.W.kitOne K (.ref (He.ga K w.str)) (.ref (He.ga K w'.str)) = some (decide (w = w'))
theorem wdK_of {K : PySem.W.Frag} (h : exB K = true) : WdK K := by
  have k : ∀ w : Wd, _ := fun w => List.all_eq_true.mp h w w.mem
  simp only [Bool.and_eq_true, decide_eq_true_eq] at k
  exact ⟨fun w => excB_ok (k w).1, fun w => (k w).2.1, fun w => (k w).2.2.1, fun w w' => by
    have := List.all_eq_true.mp (k w).2.2.2 w' w'.mem
    exact of_decide_eq_true this⟩
/-! ### l.count(x), flat items -/
def rCntV (K : PySem.W.Frag) : V → List V → Hp → VK → Prop := fun x xs H Q => ∃ (p : Addr) (ys : List V) (y : V), x = .ref p ∧ xs = [y] ∧ SqL K H p ys ∧ flatV y = true ∧ ys.all flatV = true ∧ Q (.int ((ys.countP fun z => eqV z y : Nat) : Int)) H
theorem cnt_vals {y : V} : ∀ {ys : List V} {us : List Value}, Vals ys us → ys.all flatV = true → us.countP (eqU y) = ys.countP fun z => eqV z y
  | _, _, .nil, _ => rfl
  | z :: ys, u :: us, .cons r t, f => by
    rw [List.all_cons, Bool.and_eq_true] at f
    have e := eqU_of (x := y) r f.1
    rw [List.countP_cons, List.countP_cons, cnt_vals t f.2, e]
theorem mt_lcountV {X : Cx} : MtR X "list.count" (rCntV X.K) := by
  intro pins s σ H x xs v us Q I rx rxs h
  obtain ⟨p, ys, y, rfl, rfl, hs, fy, fys, q⟩ := h
  cases rx
  obtain ⟨u, rfl, ry⟩ := rxs.one
  obtain ⟨its, rv, ⟨⟨cls, dd, data, sl⟩, n, ho, hc, hdn, hd⟩, hlen⟩ := I.list hs
  simp only at hc hd
  subst hc hd
  have ec : its.toArray.toList.countP (eqU y) = ys.countP fun z => eqV z y := cnt_vals rv fys
  have fin : V.int ((ys.countP fun z => eqV z y : Nat) : Int) = V.int ((its.toArray.toList.countP (eqU y) : Nat) : Int) := by rw [ec]
  rw [fin] at q
  exact call_meets PySem.F.slot_list_count ⟨_, ho, rfl⟩ PySem.F.entry_list_count (PySem.F.args_list_count_2 _ _) (SeqAt.list_countAt p its.toArray n dd sl u (eqU y))
    ⟨ho, fun u' hu => mem_eqAt ry fy rv fys u' (by simpa using hu), .int _, H, I.tok _, ⟨s.toks, rfl⟩, q⟩
/-! ### readings -/
section
variable {K : PySem.W.Frag} {H : Hp} {Q : VK}
theorem r_isE (W : WdK K) {w : Wd} (w' : Wd) {a : Addr} (q : Q (.bl (decide (w = w'))) H) : rIsE K (He.ga K w.str) a [.ref a, .ref (He.ga K w'.str)] H Q := ⟨_, .ref (He.ga K w'.str), _, rfl, fun u r => r, W.w w w', q⟩
theorem r_isEV (W : WdK K) {w : Wd} {a : Addr} (q : Q (.bl true) H) : rIsE K (He.ga K w.str) a [.ref a, .ty "ValueError"] H Q := ⟨_, .type "ValueError", _, rfl, fun u r => r, W.v w, q⟩
end
/-- the answers of the eleven questions -/
def Wd.row (w : Wd) : List V := [.bl (decide (w = .noTable)), .bl (decide (w = .noHall)), .bl (decide (w = .noAgent)), .bl (decide (w = .noLock)), .bl (decide (w = .noHouse)), .bl (decide (w = .noLetter)), .bl (decide (w = .stopped)), .bl (decide (w = .waits)), .bl (decide (w = .holds)), .bl (decide (w = .notHeld)), .bl (decide (w = .up))]
def Wd.ix : Wd → Nat
  | .noTable => 0 | .noHall => 1 | .noAgent => 2 | .noLock => 3 | .noHouse => 4 | .noLetter => 5 | .stopped => 6 | .waits => 7 | .holds => 8 | .notHeld => 9 | .up => 10
def Wd.words : List V := [.str "NoTable", .str "NoHall", .str "NoAgent", .str "NoLock", .str "NoHouse", .str "NoLetter", .str "Stopped", .str "Waits", .str "Holds", .str "NotHeld", .str "Up"]
theorem Wd.row_flat (w : Wd) : w.row.all flatV = true := by cases w <;> decide
theorem Wd.row_cnt (w : Wd) : (w.row.countP fun z => eqV z (.bl true)) = 1 := by cases w <;> decide
theorem Wd.row_ix (w : Wd) : w.row[w.ix]? = some (.bl true) := by cases w <;> rfl
theorem Wd.row_no (w : Wd) : ∀ (m : Nat) (z : V), m < w.ix → w.row[m]? = some z → eqV z (.bl true) = false := by
  intro m z hm hz
  have key : ∀ m, m < w.ix → w.row[m]? = some (.bl false) := by
    cases w <;> decide +revert
  rw [key m hm] at hz
  cases hz
  rfl
theorem Wd.word_ix (w : Wd) : Wd.words[w.ix]? = some (.str w.str) := by cases w <;> rfl
/-- what the catcher makes of a lambda's reading -/
def TKind (K : PySem.W.Frag) : (XK → Hp → VK → Prop) → Hp → VK → Prop := fun tl H Q => tl (fun cls d H' => d = none ∧ ∃ w : Wd, cls = w.cls K ∧ ∀ H2, Fr No H' H2 → Q (.str w.str) H2) H Q
/-- what the catcher's suite may lean on -/
def tsKind (K : PySem.W.Frag) : Addr → Value → Option Addr → TS := fun a cls d D σ H => ∃ w : Wd, cls = w.cls K ∧ d = none ∧ (∃ σ0 : L2.St, σ = σ0.set 1 (some (.ref a))) ∧ ∀ H2, Fr No H H2 → D.rt (.str w.str) H2
theorem slots4 {σ0 : L2.St} {y : Option V} (h : (σ0.set 1 y).length = 4) : ∃ x z u, σ0.set 1 y = [x, y, z, u] := by
  rw [List.length_set] at h
  match σ0, h with
  | [a, b, c, d], _ => exact ⟨a, c, d, rfl⟩
theorem pLam {X : Cx} {A : Around} {outer : List Env} {s : Shared} {H : Hp} {E : XK} {scope : Scope} {f c' : Addr} : Passes (L2.CX X.prog X.w) (LamX.lamCx X A outer s H E scope f c') E :=
  passes_call (takes_of rfl rfl rfl rfl) fun _ _ _ _ h => h
/-! ### tables of code objects -/
section
variable {H H' : Hp} {S : Addr → Prop} {T : List (Addr × Str)} {D : LA} {Tt : Tb} {K : PySem.W.Frag} {A : TA}
def OldL (S : Addr → Prop) (H : Hp) : Prop := ∀ b, S b → ∃ xs, H b = some (.lst xs)
theorem tabs_fr (t : LamX.Tabs T H) (f : Fr S H H') (hS : OldL S H) : LamX.Tabs T H' := fun p hp => by
  obtain ⟨ps, h1, h2, h3⟩ := t p hp
  refine ⟨ps, f.old _ _ h1 (fun z => ?_), h2, fun pos cv hc => ?_⟩
  · obtain ⟨xs, e⟩ := hS _ z
    rw [h1] at e
    cases e
  · obtain ⟨c, e1, e2⟩ := h3 pos cv hc
    refine ⟨c, e1, f.old _ _ e2 (fun z => ?_)⟩
    obtain ⟨xs, e⟩ := hS _ z
    rw [e2] at e
    unfold LamX.CodeO at e
    cases e
theorem old_no : OldL No H := fun _ z => z.elim
theorem old_foot {C : Addr} (h : TbAt C H A Tt) : OldL A.foot H := fun b hb => by
  unfold TA.foot at hb
  simp only [List.mem_cons] at hb
  rcases hb with e | e | e | e | e
  · rw [e]; exact ⟨_, h.own⟩
  · rw [e]; exact ⟨_, h.tim⟩
  · rw [e]; exact ⟨_, h.wan⟩
  · rw [e]; exact ⟨_, h.rou⟩
  · obtain ⟨i, hi, e⟩ := List.mem_iff_getElem.mp e
    exact ⟨_, h.each i b (by rw [List.getElem?_eq_getElem hi, e])⟩
theorem old_lfoot (h : LdAt H D Tt) : OldL D.foot H := fun b hb => by
  unfold LA.foot at hb
  simp only [List.mem_cons, List.not_mem_nil, or_false] at hb
  obtain ⟨as, a1, _⟩ := h.lin
  rcases hb with e | e | e | e | e
  · rw [e]; exact ⟨_, h.own⟩
  · rw [e]; exact ⟨_, a1⟩
  · rw [e]; exact ⟨_, h.tim⟩
  · rw [e]; exact ⟨_, h.wan⟩
  · rw [e]; exact ⟨_, h.rou⟩
theorem old_one {p : Addr} {xs : List V} (h : H p = some (.lst xs)) : OldL (Only1 p) H := fun b hb => ⟨xs, by rw [show b = p from hb]; exact h⟩
/-- what stands stays when a lambda is made -/
theorem TbAt.ext {C : Addr} (h : TbAt C H A Tt) (e : LamX.ExtN H H') : TbAt C H' A Tt :=
  ⟨e _ _ h.ins (fun ps z => by cases z), e _ _ h.own (fun ps z => by cases z), e _ _ h.lin (fun ps z => by cases z), e _ _ h.tim (fun ps z => by cases z), e _ _ h.wan (fun ps z => by cases z), e _ _ h.rou (fun ps z => by cases z), fun i a k => e _ _ (h.each i a k) (fun ps z => by cases z), h.ll, h.nd, h.sz⟩
theorem LdAt.ext (h : LdAt H D Tt) (e : LamX.ExtN H H') (hb : ∀ b, D.bad b → ∃ o, H b = some o ∧ ∀ ps, o ≠ .tbl ps) : LdAt H' D Tt := by
  obtain ⟨as, a1, a2, a3⟩ := h.lin
  exact ⟨e _ _ h.dic (fun ps z => by cases z), e _ _ h.own (fun ps z => by cases z), e _ _ h.tim (fun ps z => by cases z), e _ _ h.wan (fun ps z => by cases z), e _ _ h.rou (fun ps z => by cases z), ⟨as, e _ _ a1 (fun ps z => by cases z), a2, fun i a k => ⟨e _ _ (a3 i a k).1 (fun ps z => by cases z), (a3 i a k).2⟩⟩, h.nd, (fun b k z => by
    obtain ⟨o, h1, h2⟩ := hb b k
    rw [e _ _ h1 h2] at z
    cases z), h.own_bad, h.sz⟩
theorem sqL_ext {a : Addr} {xs : List V} (h : SqL K H a xs) (e : LamX.ExtN H H') : SqL K H' a xs := by
  rcases h with (h | ⟨o, h⟩) | h
  · exact .inl (.inl (e _ _ h (fun ps z => by cases z)))
  · exact .inl (.inr ⟨o, e _ _ h (fun ps z => by cases z)⟩)
  · exact .inr h
theorem StAt.ext {st sc : Addr} {ns : List Int} (h : StAt K H st sc ns) (e : LamX.ExtN H H') : StAt K H' st sc ns := by
  obtain ⟨i, m, l, h1, h2, h3⟩ := h.ex
  exact ⟨⟨i, m, l, e _ _ h1 (fun ps z => by cases z), h2, h3⟩, sqL_ext h.sq e, h.len⟩
theorem OutAt.ext {H0 : Hp} {v : V} {o : Out} (h : OutAt H H0 v o) (e : LamX.ExtN H H') : OutAt H' H0 v o := by
  have td : ∀ (xs : List V) (rs : List (Nat × Option Nat)), TdAll H xs (gone rs) → TdAll H' xs (gone rs) := by
    intro xs rs
    induction rs generalizing xs with
    | nil => intro h; cases h; exact .nil
    | cons r rs ih =>
      intro h
      cases h with
      | cons h1 h2 =>
        refine .cons ?_ (ih _ h2)
        cases h1 with
        | tup k a =>
          refine .tup (e _ _ k (fun ps z => by cases z)) ?_
          cases a with
          | cons a1 a2 =>
            cases a2 with
            | cons b1 b2 =>
              cases b2
              refine .cons ?_ (.cons ?_ .nil)
              · cases a1; exact .int _
              · cases q : r.2 with
                | none => rw [q] at b1; cases b1; exact .non
                | some n => rw [q] at b1; cases b1; exact .int _
  cases o with
  | b x => exact h
  | o x => exact h
  | g rs =>
    obtain ⟨p, h1, h0, ⟨vs, h2, h3⟩, hl⟩ := h
    exact ⟨p, h1, h0, ⟨vs, e _ _ h2 (fun ps z => by cases z), td _ _ h3⟩, hl⟩
theorem ResAt.ext {H0 : Hp} {v : V} {r : Except Wd Out} (h : ResAt H H0 v r) (e : LamX.ExtN H H') : ResAt H' H0 v r := by
  cases r with
  | error w => exact h
  | ok o => exact OutAt.ext h e
end
theorem hu_nodup {α : Type} {tf : List α} {g : α → Addr} {qn : α → Str} (nd : (tf.map g).Nodup) {d : α} (hd : d ∈ tf) : ∀ p ∈ tf.map (fun d => (g d, qn d)), p.1 = g d → p.2 = qn d := fun p hp e => by
  obtain ⟨c, hc, rfl⟩ := List.mem_map.mp hp
  have e' : g c = g d := e
  have : c = d := by
    clear hp
    induction tf with
    | nil => cases hd
    | cons x r ih =>
      rw [List.map_cons, List.nodup_cons] at nd
      rcases List.mem_cons.mp hd with h1 | h1 <;> rcases List.mem_cons.mp hc with h2 | h2
      · rw [h1, h2]
      · exact absurd (List.mem_map.mpr ⟨c, h2, e'.trans (by rw [h1])⟩) nd.1
      · exact absurd (List.mem_map.mpr ⟨d, h1, e'.symm.trans (by rw [h2])⟩) nd.1
      · exact ih nd.2 h1 h2
  rw [this]
/-- a def in which a lambda is made: its code object and table are known -/
theorem fnFL {P : Program} {w : World} {K : PySem.W.Frag} {mg : Str → Option Value} {base : Heap} {x qual : Str} {st : Stmt} {p : He.Defn} {N ps : List Str} {k : Nat} {sp : Sp} {fd : FuncData} (F : FunD K x qual (defArgs st) (defBody st) (defScope st) [] [] (He.fAd K p) fd) (S : FnScope N ps (defScope st))
    (len : ∀ vs H Q E, sp vs H Q E → vs.length = ps.length)
    (hbody : ∀ (A : Around) (outer : List Env) (s : Shared) (H : Hp) (vs : List V) (Q : VK) (E : XK), Room k (A.deeper (envOfC qual (defScope st) s.heap.objs.size (He.fAd K p) (.ref (He.cT K p).1))) → sp vs H Q E →
      ∃ t, PSs (cxOf (L2.CX P w) P w K mg base N qual (defScope st) (He.fAd K p) (.ref (He.cT K p).1) A outer s H E) (defBody st) t ∧ t { nx := fun _ H' => Q .non H', rt := Q } (start N vs) H) : FnOk P w K mg base (L2.CX P w) (k + 1) (He.fAd K p) fd ps sp := by
  obtain ⟨oc, od, dV, kV, doc, pm, an, cdv, ct, osl, e, lk, hcd, _, _⟩ := F.ex
  obtain ⟨c, rfl⟩ := He.codeIn_ref hcd
  subst e
  have ec : (He.cT K p).1 = c := He.codeOf_eq lk rfl
  rw [ec] at hbody
  exact fn_of lk hcd S len fun A outer s H vs Q E hr hsp => hbody A outer s H vs Q E hr hsp
/-- a def in which a lambda is made: its code object and table are known -/
theorem okFL {P : Program} {w : World} {K : PySem.W.Frag} {mg : Str → Option Value} {base : Heap} {x qual : Str} {st : Stmt} {p : He.Defn} {N ps : List Str} {k : Nat} {sp : Sp} (F : DefAt K x qual st (He.fAd K p)) (S : FnScope N ps (defScope st))
    (hbi : ∀ (kV doc pm : Value) (an : Option Addr) (cdv ct : Value) (us : List Value), us.length = ps.length → bindArgs (PySem.W.fnOf x qual (defArgs st) (defBody st) (defScope st) .none kV doc pm an cdv ct) ⟨us, []⟩ = pure (ps.zip us))
    (len : ∀ vs H Q E, sp vs H Q E → vs.length = ps.length)
    (hbody : ∀ (A : Around) (outer : List Env) (s : Shared) (H : Hp) (vs : List V) (Q : VK) (E : XK), Room k (A.deeper (envOfC qual (defScope st) s.heap.objs.size (He.fAd K p) (.ref (He.cT K p).1))) → sp vs H Q E →
      ∃ t, PSs (cxOf (L2.CX P w) P w K mg base N qual (defScope st) (He.fAd K p) (.ref (He.cT K p).1) A outer s H E) (defBody st) t ∧ t { nx := fun _ H' => Q .non H', rt := Q } (start N vs) H) : OkF P w K mg base (k + 1) (He.fAd K p) ps sp := by
  obtain ⟨fd, F⟩ := F
  exact ⟨⟨fd, fnFL F S len hbody, F.bindsN hbi⟩, F.kp⟩
end AL

namespace AL
open PySem PySem.Spec PyProof.Rows L2
/-! # the law's loop: the table, the law's own, the state of drawing -/
section
variable {K : PySem.W.Frag} {σ : L2.St} {H H' : Hp} {Q : VK} {D : Ends} {tb : TS} {ta : L2.TA} {j : Nat}
def ForOn (g : TG) (tb : TS) (D : Ends) (σ : L2.St) (J : It) (H1 : Hp) : Prop := ∃ W : Nat → Nat → L2.St → Hp → Prop, (∃ m, W 0 m σ H1) ∧ ∀ i m σ H, W i m σ H →
  (J.stop i H ∧ D.nx σ H) ∨ (J.go i H ∧ ∃ N : L2.St → Hp → Prop, (∀ σ' H', N σ' H' → ∃ m', m' < m ∧ W (i + 1) m' σ' H') ∧ ∀ x H', J.yld i H x H' → g x σ H' fun σ2 H2 => tb { D with nx := N, ct := N, bk := D.nx } σ2 H2)
theorem r_forRx (h : ta σ H fun vs H1 => ∃ jj : Int, vs = [.int jj] ∧ -(2 ^ 62) ≤ jj ∧ jj < 2 ^ 62 ∧ ForOn (gName j) tb D σ (Itr 0 jj.toNat) H1) : tFor (iRng1 ta) (gName j) tb D σ H := h
theorem r_rngOn {n : Nat} (hn : n ≤ 1000) (Pv : Nat → L2.St → Hp → Prop) (h0 : Pv 0 σ H)
    (hs : ∀ (i : Nat) σ' H', i < n → Pv i σ' H' → tb { D with nx := Pv (i + 1), ct := Pv (i + 1), bk := D.nx } (σ'.set j (some (.int (i : Int)))) H') (hd : ∀ σ' H', Pv n σ' H' → D.nx σ' H') :
    ∃ jj : Int, [V.int (n : Int)] = [.int jj] ∧ -(2 ^ 62) ≤ jj ∧ jj < 2 ^ 62 ∧ ForOn (gName j) tb D σ (Itr 0 jj.toNat) H := by
  refine ⟨(n : Int), rfl, by omega, by omega, ?_⟩
  have en : ((n : Int)).toNat = n := by omega
  rw [en]
  refine for_range (lo := 0) (n := n) Pv h0 (fun i σ' H' hi p => ?_) hd
  have e0 : (0 : Int) + (i : Int) = (i : Int) := Int.zero_add _
  rw [e0]
  exact hs i σ' H' hi p
/-- over a list just made -/
theorem r_forLx {tl : TE} {g : TG} (h : tl σ H fun x H1 => ∃ a, x = .ref a ∧ (∃ xs, SqL K H1 a xs) ∧ ForOn g tb D σ (Itl K a) H1) : tFor (iList K tl) g tb D σ H := h
theorem r_lstOn {a : Addr} {xs : List V} (hx : H a = some (.lst xs)) (Pv : Nat → L2.St → Hp → Prop) (h0 : Pv 0 σ H) (hl : ∀ i σ' H', i ≤ xs.length → Pv i σ' H' → SqL K H' a xs)
    (hs : ∀ i x σ' H', xs[i]? = some x → Pv i σ' H' → tb { D with nx := Pv (i + 1), ct := Pv (i + 1), bk := D.nx } (σ'.set j (some x)) H') (hd : ∀ σ' H', Pv xs.length σ' H' → D.nx σ' H') :
    ∃ b, V.ref a = .ref b ∧ (∃ xs, SqL K H b xs) ∧ ForOn (gName j) tb D σ (Itl K b) H := ⟨a, rfl, ⟨xs, SqL.of hx⟩, for_list Pv h0 hl hs hd⟩
end
/-! ### the script apart -/
section
variable {K : PySem.W.Frag} {H H' : Hp} {sc : Addr} {ns : List Int} {S : Addr → Prop}
theorem scF_of (h : SqL K H sc (ns.map V.int)) (hS : ∀ b, S b → H b = none) : ScF K sc ns S := by
  rcases h with (h | ⟨o, h⟩) | h
  · exact .inr fun z => by rw [hS _ z] at h; cases h
  · exact .inr fun z => by rw [hS _ z] at h; cases h
  · exact .inl fun H => .inr h
theorem scF_mono {S' : Addr → Prop} (h : ScF K sc ns S) (m : ∀ b, S' b → S b) : ScF K sc ns S' := h.elim .inl fun n => .inr fun z => n (m _ z)
end
/-! ### loose objects -/
def LA.moreP (D : LA) (S : Addr → Prop) : LA := { D with bad := fun b => D.bad b ∨ S b }
theorem LdAt.moreP {H H' : Hp} {D : LA} {T : Tb} {S R : Addr → Prop} (h : LdAt H D T) (hS : ∀ b, S b → H b = none) (f : Fr R H H') (h1 : ∀ b, R b → D.bad b) (h2 : ∀ b, D.has b → ¬ R b) (e : ∀ b, S b → H' b ≠ none) : LdAt H' (D.moreP S) T := by
  have h' := h.fr f h1 h2
  obtain ⟨as, a1, a2, a3⟩ := h'.lin
  obtain ⟨as0, b1, b2, b3⟩ := h.lin
  refine ⟨h'.dic, h'.own, h'.tim, h'.wan, h'.rou, ⟨as, a1, a2, fun i a ea => ⟨(a3 i a ea).1, fun z => ?_⟩⟩, h'.nd, fun b hb z => ?_, fun b hb => .inl (h.own_bad b hb), h.sz⟩
  · rcases z with z | z
    · exact (a3 i a ea).2 z
    · have e1 := f.old _ _ b1 (h2 _ (by simp [LA.has]))
      have e2 : H' D.li = some (.lst (as.map V.ref)) := a1
      rw [e1] at e2
      have e3 : as0.map V.ref = as.map V.ref := by
        have := Option.some.inj e2
        injection this
      have e4 : as0 = as := List.map_inj_right (fun x y q => V.ref.inj q) |>.mp e3
      have := (b3 i a (by rw [e4]; exact ea)).1
      rw [hS a z] at this
      cases this
  · rcases hb with hb | hb
    · exact h'.old b hb z
    · exact e b hb z
theorem LdAt.lessP {H : Hp} {D : LA} {T : Tb} {S : Addr → Prop} (h : LdAt H (D.moreP S) T) (ob : ∀ b, D.has b → D.bad b) : LdAt H D T := by
  obtain ⟨as, a1, a2, a3⟩ := h.lin
  exact ⟨h.dic, h.own, h.tim, h.wan, h.rou, ⟨as, a1, a2, fun i a ea => ⟨(a3 i a ea).1, fun z => (a3 i a ea).2 (.inl z)⟩⟩, h.nd, fun b hb => h.old b (.inl hb), ob, h.sz⟩
/-! ### the whole state -/
/-- what stands apart, once for all -/
structure LwS (K : PySem.W.Frag) (A : TA) (D : LA) (st sc : Addr) (ns : List Int) : Prop where
  ad : ∀ b, A.has b → ¬ D.has b
  ab : ∀ b, A.has b → D.bad b
  sb : D.bad st
  sd : ¬ D.has st
  sa : ¬ A.has st
  ob : ∀ b, D.has b → D.bad b
  bo : ∀ b, D.bad b → D.has b ∨ A.has b ∨ b = st
  fa : ScF K sc ns A.foot
  fd : ScF K sc ns D.foot
  fs : ScF K sc ns (Only1 st)
structure Lw (K : PySem.W.Frag) (A : TA) (D : LA) (st sc : Addr) (ns : List Int) (Ts : List (Addr × Str)) (T : Tb) (H : Hp) : Prop where
  tb : TbK K H A T
  ld : LdAt H D T
  st : StAt K H st sc ns
  ts : LamX.Tabs Ts H
  wf : T.Wf
section
variable {K : PySem.W.Frag} {A : TA} {D : LA} {st sc : Addr} {ns : List Int} {Ts : List (Addr × Str)} {T T' : Tb} {H H' : Hp}
theorem Lw.fr0 (h : Lw K A D st sc ns Ts T H) (f : Fr No H H') : Lw K A D st sc ns Ts T H' := ⟨h.tb.fr0 f, h.ld.fr0 f, h.st.fr0 f, tabs_fr h.ts f old_no, h.wf⟩
theorem Lw.frS (s : LwS K A D st sc ns) (h : Lw K A D st sc ns Ts T H) (f : Fr (Only1 st) H H') (hs : StAt K H' st sc ns) : Lw K A D st sc ns Ts T H' := by
  obtain ⟨xs, e⟩ := h.st.lst
  exact ⟨h.tb.fr f fun b hb z => s.sa (z ▸ hb), h.ld.fr f (fun b hb => hb ▸ s.sb) (fun b hb z => s.sd (z ▸ hb)), hs, tabs_fr h.ts f (old_one e), h.wf⟩
theorem Lw.bad_l (h : LdAt H D T) {b : Addr} (z : D.has b) : ∃ o, H b = some o ∧ ∀ ps, o ≠ .tbl ps := by
  unfold LA.has at z
  simp only [List.mem_cons, List.not_mem_nil, or_false] at z
  obtain ⟨as, a1, _⟩ := h.lin
  rcases z with e | e | e | e | e | e
  · rw [e]; exact ⟨_, h.dic, fun xs z => by cases z⟩
  · rw [e]; exact ⟨_, h.own, fun xs z => by cases z⟩
  · rw [e]; exact ⟨_, a1, fun xs z => by cases z⟩
  · rw [e]; exact ⟨_, h.tim, fun xs z => by cases z⟩
  · rw [e]; exact ⟨_, h.wan, fun xs z => by cases z⟩
  · rw [e]; exact ⟨_, h.rou, fun xs z => by cases z⟩
theorem Lw.bad_t (hT : TbK K H A T) {b : Addr} (z : A.has b) : ∃ o, H b = some o ∧ ∀ ps, o ≠ .tbl ps := by
  unfold TA.has at z
  simp only [List.mem_cons] at z
  rcases z with e | e | e | e | e | e | e
  · rw [e]; exact ⟨_, hT.ins, fun xs z => by cases z⟩
  · rw [e]; exact ⟨_, hT.lin, fun xs z => by cases z⟩
  · rw [e]; exact ⟨_, hT.own, fun xs z => by cases z⟩
  · rw [e]; exact ⟨_, hT.tim, fun xs z => by cases z⟩
  · rw [e]; exact ⟨_, hT.wan, fun xs z => by cases z⟩
  · rw [e]; exact ⟨_, hT.rou, fun xs z => by cases z⟩
  · obtain ⟨i, hi, e⟩ := List.mem_iff_getElem.mp e
    exact ⟨_, hT.each i b (by rw [List.getElem?_eq_getElem hi, e]), fun xs z => by cases z⟩
theorem Lw.bad (s : LwS K A D st sc ns) (h : Lw K A D st sc ns Ts T H) : ∀ b, D.bad b → ∃ o, H b = some o ∧ ∀ ps, o ≠ .tbl ps := fun b hb => by
  rcases s.bo b hb with z | z | z
  · exact Lw.bad_l h.ld z
  · exact Lw.bad_t h.tb z
  · rw [z]
    obtain ⟨xs, e⟩ := h.st.lst
    exact ⟨_, e, fun xs z => by cases z⟩
theorem Lw.new (s : LwS K A D st sc ns) (h : Lw K A D st sc ns Ts T H) {p : Addr} (hp : H p = none) : ¬ A.has p ∧ ¬ D.bad p ∧ p ≠ st ∧ ScF K sc ns (Only1 p) := by
  have hb : ¬ D.bad p := fun z => by
    obtain ⟨o, e, _⟩ := h.bad s p z
    rw [hp] at e
    cases e
  exact ⟨fun z => hb (s.ab _ z), hb, fun z => hb (z ▸ s.sb), scF_of h.st.sq fun b hb => by rw [show b = p from hb]; exact hp⟩
end
theorem ResAt.kind {H H0 : Hp} {v : V} {r : Except Wd Out} (h : ResAt H H0 v r) : (∃ b, v = .ref b ∧ H0 b = none ∧ ∃ xs, H b = some (.lst xs) ∧ xs.length ≤ 100) ∨ ((∀ b, v ≠ .ref b) ∧ ∃ a : String, kitB a "list" = some false ∧ ∀ (K : PySem.W.Frag) (H' : Hp), TyX K H' v (.type a)) := by
  cases r with
  | error w =>
    rw [show v = .str w.str from h]
    exact .inr ⟨(fun b z => by cases z), "str", by decide +kernel, fun K H' => .base (.str _)⟩
  | ok o =>
    cases o with
    | b x =>
      rw [show v = .bl x from h]
      exact .inr ⟨(fun b z => by cases z), "bool", by decide +kernel, fun K H' => .base (.bl _)⟩
    | o x =>
      rw [show v = oV x from h]
      cases x with
      | none => exact .inr ⟨(fun b z => by cases z), "NoneType", by decide +kernel, fun K H' => .base .non⟩
      | some n => exact .inr ⟨(fun b z => by cases z), "int", by decide +kernel, fun K H' => .base (.int _)⟩
    | g rs =>
      obtain ⟨p, rfl, h0, ⟨vs, h1, h2⟩, hl⟩ := h
      exact .inl ⟨p, rfl, h0, vs, h1, by rw [h2.len, gone_len]; exact hl⟩
/-! ### the deed is done, or refused -/
namespace Tb
theorem deedR_same {T : Tb} {dd : Deed} {w : Wd} (h : (T.deedR dd).1 = .error w) : (T.deedR dd).2 = T := by
  cases dd with
  | ask a l =>
    show (T.askR a l).2 = T
    cases q : T.askR a l with
    | mk r T' =>
      have h2 : (T.askR a l).1.map Out.b = .error w := h
      rw [q] at h2
      cases r with
      | error w' => rw [askR_same q]
      | ok o => cases h2
  | give a l =>
    show (T.giveR a l).2 = T
    cases q : T.giveR a l with
    | mk r T' =>
      have h2 : (T.giveR a l).1.map Out.o = .error w := h
      rw [q] at h2
      cases r with
      | error w' => rw [giveR_same q]
      | ok o => cases h2
  | leave a =>
    show (T.leaveR a).2 = T
    cases q : T.leaveR a with
    | mk r T' =>
      have h2 : (T.leaveR a).1.map Out.g = .error w := h
      rw [q] at h2
      cases r with
      | error w' => rw [leaveR_same q]
      | ok o => cases h2
theorem Wf.deedR {T : Tb} (W : T.Wf) (dd : Deed) : (T.deedR dd).2.Wf := by
  cases dd with
  | ask a l => exact W.askR
  | give a l => exact W.giveR
  | leave a => exact W.leaveR
end Tb
theorem r_kindDoes {K : PySem.W.Frag} {A : TA} {T : Tb} {p : Addr} {dd : Deed} {i j : Nat} {σ : L2.St} {H : Hp} {Q : VK} (hi : σ[i]? = some (some (.ref A.p))) (hj : σ[j]? = some (some (.ref p))) (hT : TbK K H A T) (hW : T.Wf) (hp : H p = some (.tup dd.vs))
    (q : ∀ v H', TbK K H' A (T.deedR dd).2 → ResAt H' H v (T.deedR dd).1 → Fr A.foot H H' → Q v H') : TKind K (fun E H' Q' => tCall (sp_Ldoes K) [] E (tCons (tVar i) (tCons (tVar j) tNil)) σ H' Q') H Q := by
  refine ⟨_, hi, _, hj, ?_⟩
  refine ⟨_, _, rfl, A, T, p, dd, rfl, rfl, hT, hW, hp, fun w ew => ?_, fun v o H' eo hT' ho f => ?_⟩
  · refine ⟨rfl, w, rfl, fun H2 f => q _ H2 ?_ ?_ f.up⟩
    · rw [Tb.deedR_same ew]; exact hT.fr0 f
    · rw [ew]; rfl
  · refine q v H' hT' ?_ f
    rw [eo]; exact ho
abbrev sp_law (Ts : List (Addr × Str)) (K : PySem.W.Frag) : Sp := sp1 fun x H Q E => ∃ sc, ∃ ns : List Int, x = .ref sc ∧ SqL K H sc (ns.map V.int) ∧ ns.length ≤ 63 ∧ LamX.Tabs Ts H ∧ ∀ H', Q (.bl true) H'
/-- a def's lambda's full name -/
def lamQ (qual : Str) (sc : Scope) : Str := (envOfC qual sc 0 0 .none).qual ++ "<lambda>"
/-- a suite's reading by another one -/
theorem pss_ofL {X : Cx} {ss : List Stmt} {u : TS} (m : ∀ D σ H, σ.length = X.N.length → u D σ H → ∃ t, PSs X ss t ∧ t D σ H) : PSs X ss u := ⟨fun pins s σ H D I hu => by
  obtain ⟨t, ht, q⟩ := m D σ H I.len hu
  exact ht.run pins s σ H D I q⟩
end AL

namespace AL
open PySem PySem.Spec PyProof.Rows L2
theorem op_isF {X : Cx} : OpR X (compareOp .Is) (fun x y H Q => ∃ b : Bool, y = .bl b ∧ Q (.bl (decide (x = .bl b))) H) := by
  intro pins s σ H x y v u Q I rx ry h
  obtain ⟨b, rfl, q⟩ := h
  cases (show u = Value.bool b from ry)
  have off : ∀ (v : Value), plainIs v (.bool b) = true → v ≠ Value.bool b → x ≠ .bl b → wpAny (model X.prog X.w) X.A (compareOp .Is v (.bool b)) (EP X pins σ Q) X.xe s := fun v hp hv hx => by
    rw [decide_eq_false hx] at q
    exact wpAny_is_other hp hv ⟨.bl false, H, I, rfl, q⟩
  cases x with
  | bl a =>
    cases (show v = Value.bool a from rx)
    by_cases e : a = b
    · subst e
      exact wpAny_is_self rfl ⟨.bl true, H, I, rfl, by simpa using q⟩
    · exact off _ rfl (fun z => e (Value.bool.inj z)) (fun z => e (V.bl.inj z))
  | non => cases (show v = Value.none from rx); exact off _ rfl (fun z => nomatch z) (fun z => nomatch z)
  | int i => obtain ⟨t, rfl⟩ := rx; exact off _ rfl (fun z => nomatch z) (fun z => nomatch z)
  | str i => obtain ⟨t, rfl⟩ := rx; exact off _ rfl (fun z => nomatch z) (fun z => nomatch z)
  | byt i => obtain ⟨t, rfl⟩ := rx; exact off _ rfl (fun z => nomatch z) (fun z => nomatch z)
  | flt i => obtain ⟨t, rfl⟩ := rx; exact off _ rfl (fun z => nomatch z) (fun z => nomatch z)
  | ref a => cases (show v = Value.ref a from rx); exact off _ rfl (fun z => nomatch z) (fun z => nomatch z)
  | ty n => cases (show v = Value.type n from rx); exact off _ rfl (fun z => nomatch z) (fun z => nomatch z)
/-! # law k03 -/
theorem turns_all (d : Nat → PyData) (n : Nat) : turns (fun _ => true) d n = (List.range n).map d := by
  unfold turns
  rw [List.filter_eq_self.mpr (fun _ _ => rfl)]
theorem lsat_nats {H : Hp} {p : Addr} {xs : List Nat} (h : LsAt H p (xs.map fun x : Nat => PyData.int (x : Int))) : H p = some (.lst (xs.map nV)) := by
  have e : (xs.map fun x : Nat => PyData.int (x : Int)) = (xs.map fun x : Nat => (x : Int)).map PyData.int := by rw [List.map_map]; rfl
  rw [e] at h
  have := h.ints
  rw [List.map_map] at this
  exact this
theorem td_os {H : Hp} : ∀ {os : List (Option Nat)} {vs : List V}, TdAll H vs (os.map oD) → vs = os.map oV
  | [], _, h => by cases h; rfl
  | o :: r, _, h => by
    cases h with
    | cons h1 h2 =>
      rw [td_os h2]
      cases o with
      | none => cases h1; rfl
      | some n => cases h1; rfl
theorem lsat_os {H : Hp} {p : Addr} {os : List (Option Nat)} (h : LsAt H p (os.map oD)) : H p = some (.lst (os.map oV)) := by
  obtain ⟨vs, h1, h2⟩ := h
  rw [h1, td_os h2]
theorem range_getD {α : Type} (xs : List α) (d : α) {n : Nat} (h : xs.length = n) : (List.range n).map (fun i => xs.getD i d) = xs := by
  subst h
  refine List.ext_getElem (by simp) fun i h1 h2 => ?_
  rw [List.getElem_map, List.getElem_range, List.getD_eq_getElem?_getD, List.getElem?_eq_getElem h2]
  rfl
theorem eqv_nats : ∀ xs ys : List Nat, PyData.eqvAll (xs.map fun x : Nat => PyData.int (x : Int)) (ys.map fun x : Nat => PyData.int (x : Int)) = decide (xs = ys)
  | [], [] => by simp [PyData.eqvAll]
  | [], y :: r => by simp [PyData.eqvAll]
  | x :: r, [] => by simp [PyData.eqvAll]
  | x :: r, y :: t => by
    have ih := eqv_nats r t
    simp only [List.map_cons, PyData.eqvAll, PyData.eqv, ih]
    by_cases h : x = y
    · subst h
      by_cases h2 : r = t <;> simp [h2]
    · have h3 : ((x : Int) == (y : Int)) = false := by simp; omega
      simp [h3, h]
theorem nats_dp' {K : PySem.W.Frag} {H : Hp} {xs : List Nat} {a : Addr} (h : H a = some (.lst (xs.map nV))) : Dp K H (.ref a) (.list (xs.map fun x : Nat => PyData.int (x : Int))) := nats_dp h
theorem r_eqNats {K : PySem.W.Frag} {H : Hp} {Q : VK} {a b : Addr} {xs ys : List Nat} (ha : H a = some (.lst (xs.map nV))) (hb : H b = some (.lst (ys.map nV))) (q : Q (.bl (decide (xs = ys))) H) : rEqD K (.ref a) (.ref b) H Q :=
  ⟨_, _, nats_dp ha, nats_dp hb, (nats_cmp _).shaped, (nats_cmp _).shaped, by
    have e : PyData.eqv (.list (xs.map fun x : Nat => PyData.int (x : Int))) (.list (ys.map fun x : Nat => PyData.int (x : Int))) = decide (xs = ys) := by
      simp only [PyData.eqv]
      exact eqv_nats xs ys
    rw [e]
    exact q⟩
theorem inV_nats {x : Nat} {xs : List Nat} : inV (nV x) (xs.map nV) = decide (x ∈ xs) := by
  induction xs with
  | nil => rfl
  | cons y r ih =>
    have e : inV (nV x) ((y :: r).map nV) = (eqV (nV y) (nV x) || inV (nV x) (r.map nV)) := by simp [inV]
    rw [e, ih]
    by_cases h : y = x
    · subst h
      simp [eqV, nV]
    · have h2 : eqV (nV y) (nV x) = false := by
        show ((y : Int) == (x : Int)) = false
        simp; omega
      have h3 : ¬ x = y := fun z => h z.symm
      simp [h2, h3]
theorem nats_flat (xs : List Nat) : (xs.map nV).all flatV = true := by simp [nV, flatV]
abbrev sp_Lnumbers (K : PySem.W.Frag) : Sp := sp1 fun x H Q _ => ∃ A T, x = .ref A.p ∧ TbK K H A T ∧ ∀ p a b H', H p = none → H a = none → H b = none → H' p = some (.tup [.ref a, .ref b]) → H' a = some (.lst (T.tim.map nV)) → H' b = some (.lst (T.rou.map nV)) → Fr No H H' → Q (.ref p) H'
abbrev sp_Lstands (K : PySem.W.Frag) : Sp := sp1 fun x H Q E => ∃ A T, x = .ref A.p ∧ TbK K H A T ∧ T.Wf ∧ ∀ H', Fr No H H' → Q (.bl true) H'
structure Tb.Chg (T T' : Tb) : Prop where
  n : T'.n = T.n
  m : T'.m = T.m
  ti1 : ∀ l, T'.ow l ≠ none → T'.ow l ≠ T.ow l → T'.ti l = T.ti l + 1
  ti0 : ∀ l, T'.ow l = none ∨ T'.ow l = T.ow l → T'.ti l = T.ti l
  ro1 : ∀ a, T'.wa a ≠ none → T.wa a = none → T'.ro a = T.ro a + 1
  ro0 : ∀ a, T'.wa a = none ∨ T.wa a ≠ none → T'.ro a = T.ro a
abbrev sp_Lchanged (K : PySem.W.Frag) : Sp := sp3 fun x y z H Q _ => ∃ (A : TA) (T T' : Tb) (b0 b1 p q c0 c1 : Addr), x = .ref p ∧ y = .ref A.p ∧ z = .ref q ∧ TbK K H A T' ∧ H p = some (.tup [.ref b0, .ref b1]) ∧ H b0 = some (.lst (T.tim.map nV)) ∧ H b1 = some (.lst (T.rou.map nV)) ∧
  H q = some (.tup [.ref c0, .ref c1]) ∧ H c0 = some (.lst (T.own.map oV)) ∧ H c1 = some (.lst (T.wan.map oV)) ∧ T.Sz ∧ T.Chg T' ∧ ∀ H', Fr No H H' → Q (.bl true) H'
namespace Tb
variable {T : Tb} {a l k : Nat}
theorem pass_ti1 (s : T.Sz) (hl : l < T.m) (h : T.heir l ≠ none) : (T.pass l).ti l = T.ti l + 1 := by
  cases q : T.ln l with
  | nil => exact absurd (show T.heir l = none by unfold heir; rw [q]; rfl) h
  | cons x r =>
    rw [pass_cons q, take_ti]
    have e2 : (((T.free l).line l r).stop x).tim.length = T.m := s.ti
    rw [e2, if_pos ⟨rfl, hl⟩]
    rfl
theorem pass_ti0 (h : l ≠ k ∨ T.heir l = none) : (T.pass l).ti k = T.ti k := by
  cases q : T.ln l with
  | nil => rw [pass_nil q]; rfl
  | cons x r =>
    rw [pass_cons q, take_ti]
    rcases h with h | h
    · rw [if_neg (fun z => h z.1)]; rfl
    · unfold heir at h; rw [q] at h; cases h
theorem pass_heir (s : T.Sz) (hl : l < T.m) (h : l ≠ k) : (T.pass l).heir k = T.heir k := by
  unfold heir
  rw [pass_ln (by rw [s.li]; exact hl), if_neg h]
theorem passAll_ow : ∀ (ls : List Nat) {T : Tb}, T.Sz → ls.Nodup → (∀ l ∈ ls, l < T.m) → ∀ k, (k ∈ ls → (passAll ls T).2.ow k = T.heir k) ∧ (k ∉ ls → (passAll ls T).2.ow k = T.ow k)
  | [], T, s, _, _, k => ⟨(fun h => by cases h), fun _ => rfl⟩
  | l :: r, T, s, nd, hm, k => by
    rw [List.nodup_cons] at nd
    have hl := hm l List.mem_cons_self
    obtain ⟨i1, i2⟩ := passAll_ow r (s.pass (l := l)) nd.2 (fun x hx => by rw [pass_m]; exact hm x (List.mem_cons_of_mem _ hx)) k
    refine ⟨fun h => ?_, fun h => ?_⟩
    · show (passAll r (T.pass l)).2.ow k = _
      rcases List.mem_cons.mp h with z | z
      · subst z
        rw [i2 nd.1, pass_ow hl, if_pos rfl]
      · rw [i1 z, pass_heir s hl (fun q => nd.1 (q ▸ z))]
    · show (passAll r (T.pass l)).2.ow k = _
      rw [List.mem_cons, not_or] at h
      rw [i2 h.2, pass_ow hl, if_neg (fun q => h.1 q.symm)]
theorem passAll_ti : ∀ (ls : List Nat) {T : Tb}, T.Sz → ls.Nodup → (∀ l ∈ ls, l < T.m) → ∀ k, (k ∈ ls → T.heir k ≠ none → (passAll ls T).2.ti k = T.ti k + 1) ∧ (k ∉ ls ∨ T.heir k = none → (passAll ls T).2.ti k = T.ti k)
  | [], T, s, _, _, k => ⟨(fun h => by cases h), fun _ => rfl⟩
  | l :: r, T, s, nd, hm, k => by
    rw [List.nodup_cons] at nd
    have hl := hm l List.mem_cons_self
    obtain ⟨i1, i2⟩ := passAll_ti r (s.pass (l := l)) nd.2 (fun x hx => by rw [pass_m]; exact hm x (List.mem_cons_of_mem _ hx)) k
    refine ⟨fun h hh => ?_, fun h => ?_⟩
    · show (passAll r (T.pass l)).2.ti k = _
      rcases List.mem_cons.mp h with z | z
      · subst z
        rw [i2 (.inl nd.1), pass_ti1 s hl hh]
      · have ne : l ≠ k := fun q => nd.1 (q ▸ z)
        rw [i1 z (by rw [pass_heir s hl ne]; exact hh), pass_ti0 (.inl ne)]
    · show (passAll r (T.pass l)).2.ti k = _
      by_cases z : l = k
      · subst z
        rw [i2 (.inl nd.1), pass_ti0 (.inr (h.resolve_left (fun q => q List.mem_cons_self)))]
      · rw [i2 (h.elim (fun q => .inl (fun w => q (List.mem_cons_of_mem _ w))) (fun q => .inr (by rw [pass_heir s hl z]; exact q))), pass_ti0 (.inl z)]
theorem passAll_wa : ∀ (ls : List Nat) {T : Tb}, T.Wf → (∀ l ∈ ls, l < T.m) → ∀ b, (passAll ls T).2.wa b ≠ none → (passAll ls T).2.wa b = T.wa b
  | [], T, _, _, b, _ => rfl
  | l :: r, T, W, hm, b, h => by
    have ih := passAll_wa r (W.pass (hm l List.mem_cons_self)) (fun x hx => by rw [pass_m]; exact hm x (List.mem_cons_of_mem _ hx)) b h
    have e : (passAll (l :: r) T).2.wa b = (T.pass l).wa b := ih
    rw [e] at h ⊢
    rw [pass_wa W] at h ⊢
    by_cases q : T.heir l = some b
    · rw [if_pos q] at h; exact absurd rfl h
    · rw [if_neg q]
theorem unwait_ti : (T.unwait a).ti k = T.ti k := by
  unfold unwait
  split <;> rfl
theorem heir_ne (W : T.Wf) (h : T.heir l ≠ none) : T.heir l ≠ T.ow l := by
  cases q : T.heir l with
  | none => exact absurd q h
  | some b => exact fun z => W.no b l (W.lw l b (heir_mem q)).2 z.symm
theorem chg_refl : T.Chg T := ⟨rfl, rfl, fun l _ h => absurd rfl h, fun l _ => rfl, fun a h1 h2 => absurd h2 h1, fun a _ => rfl⟩
theorem chg_take (s : T.Sz) (ha : a < T.n) (hl : l < T.m) (hf : T.ow l = none) : T.Chg (T.take a l) where
  n := take_n
  m := take_m
  ti1 := fun k h1 h2 => by
    rw [take_ow] at h1 h2
    by_cases h : l = k
    · subst h
      rw [take_ti, s.ti, if_pos ⟨rfl, hl⟩]
    · rw [if_neg (fun z => h z.1)] at h2
      exact absurd rfl h2
  ti0 := fun k h1 => by
    rw [take_ow] at h1
    by_cases h : l = k
    · subst h
      rw [if_pos ⟨rfl, hl⟩, hf] at h1
      rcases h1 with h1 | h1 <;> cases h1
    · rw [take_ti, if_neg (fun z => h z.1)]
  ro1 := fun b h1 h2 => absurd h2 h1
  ro0 := fun b _ => rfl
theorem chg_wait (s : T.Sz) (ha : a < T.n) (hw : T.wa a = none) : T.Chg (T.wait a l) where
  n := wait_n
  m := wait_m
  ti1 := fun k _ h => absurd rfl h
  ti0 := fun k _ => rfl
  ro1 := fun b h1 h2 => by
    rw [wait_wa] at h1
    by_cases h : a = b
    · subst h
      rw [wait_ro, s.ro, if_pos ⟨rfl, ha⟩]
    · rw [if_neg (fun z => h z.1)] at h1
      exact absurd h2 h1
  ro0 := fun b h1 => by
    rw [wait_wa] at h1
    by_cases h : a = b
    · subst h
      rw [if_pos ⟨rfl, ha⟩] at h1
      rcases h1 with h1 | h1
      · cases h1
      · exact absurd hw h1
    · rw [wait_ro, if_neg (fun z => h z.1)]
theorem chg_passAll {ls : List Nat} (W : T.Wf) (nd : ls.Nodup) (hm : ∀ l ∈ ls, l < T.m) : T.Chg (passAll ls T).2 where
  n := passAll_n ls T
  m := passAll_m ls T
  ti1 := fun k h1 h2 => by
    obtain ⟨o1, o2⟩ := passAll_ow ls W.sz nd hm k
    by_cases h : k ∈ ls
    · rw [o1 h] at h1
      exact (passAll_ti ls W.sz nd hm k).1 h h1
    · exact absurd (o2 h) h2
  ti0 := fun k h1 => by
    obtain ⟨o1, o2⟩ := passAll_ow ls W.sz nd hm k
    refine (passAll_ti ls W.sz nd hm k).2 ?_
    by_cases h : k ∈ ls
    · rw [o1 h] at h1
      rcases h1 with h1 | h1
      · exact .inr h1
      · by_cases q : T.heir k = none
        · exact .inr q
        · exact absurd h1 (heir_ne W q)
    · exact .inl h
  ro1 := fun b h1 h2 => absurd ((passAll_wa ls W hm b h1).trans h2) h1
  ro0 := fun b _ => passAll_ro ls T b
theorem chg_pass (W : T.Wf) (hl : l < T.m) : T.Chg (T.pass l) := chg_passAll (ls := [l]) W (by simp) (fun x hx => by rw [List.mem_singleton.mp hx]; exact hl)
theorem chg_leave (W : T.Wf) (ha : a < T.n) : T.Chg (T.leave a).2 := by
  have W1 := W.unwait ha
  have c : (T.unwait a).Chg (T.leave a).2 := chg_passAll (ls := (T.unwait a).held a) W1 held_nd (fun l hl => held_lt hl)
  refine ⟨leave_n, leave_m, fun l h1 h2 => ?_, fun l h1 => ?_, fun b h1 h2 => ?_, fun b h1 => ?_⟩
  · have := c.ti1 l h1 (by rw [unwait_ow]; exact h2)
    rw [this, unwait_ti]
  · have := c.ti0 l (by rw [unwait_ow]; exact h1)
    rw [this, unwait_ti]
  · have e : (T.leave a).2.wa b = (T.unwait a).wa b := passAll_wa _ W1 (fun l hl => held_lt hl) b h1
    rw [e, unwait_wa ha] at h1
    by_cases w : a = b
    · rw [if_pos w] at h1; exact absurd rfl h1
    · rw [if_neg w] at h1; exact absurd h2 h1
  · have : (T.leave a).2.ro b = (T.unwait a).ro b := passAll_ro _ _ b
    rw [this, unwait_ro]
theorem flat_len (W : T.Wf) : ∀ i, ((List.range i).flatMap T.ln).length ≤ 8 * i
  | 0 => by simp
  | i + 1 => by
    rw [List.range_succ, List.flatMap_append, List.length_append]
    have h1 := flat_len W i
    have h2 := W.len i
    simp only [List.flatMap_cons, List.flatMap_nil, List.append_nil]
    omega
theorem flat_mem {i : Nat} {x : Nat} (W : T.Wf) : x ∈ (List.range i).flatMap T.ln ↔ ∃ l, l < i ∧ T.wa x = some l ∧ x ∈ T.ln l := by
  rw [List.mem_flatMap]
  constructor
  · rintro ⟨l, h1, h2⟩
    exact ⟨l, List.mem_range.mp h1, (W.lw l x h2).2, h2⟩
  · rintro ⟨l, h1, _, h2⟩
    exact ⟨l, List.mem_range.mpr h1, h2⟩
theorem flat_nd (W : T.Wf) : ∀ i, ((List.range i).flatMap T.ln).Nodup
  | 0 => by simp
  | i + 1 => by
    rw [List.range_succ, List.flatMap_append, List.nodup_append]
    refine ⟨flat_nd W i, by simp only [List.flatMap_cons, List.flatMap_nil, List.append_nil]; exact W.nd i, fun x hx y hy z => ?_⟩
    subst z
    obtain ⟨l, h1, h2, _⟩ := (flat_mem W).mp hx
    simp only [List.flatMap_cons, List.flatMap_nil, List.append_nil] at hy
    have := (W.lw i x hy).2
    rw [h2] at this
    cases this
    omega
def waiting (T : Tb) : List Nat := (List.range T.n).filter fun a => decide (T.wa a ≠ none)
theorem flat_perm (W : T.Wf) : ((List.range T.m).flatMap T.ln).Perm T.waiting := by
  refine (List.perm_ext_iff_of_nodup (flat_nd W T.m) (List.nodup_range.filter _)).mpr fun x => ?_
  rw [flat_mem W]
  rw [List.mem_filter, List.mem_range, decide_eq_true_eq]
  constructor
  · rintro ⟨l, h1, h2, h3⟩
    exact ⟨(W.lw l x h3).1, by rw [h2]; simp⟩
  · rintro ⟨h1, h2⟩
    cases q : T.wa x with
    | none => exact absurd q h2
    | some l => exact ⟨l, (W.wl x l q).1, rfl, (W.wl x l q).2⟩
theorem waiting_of (W : T.Wf) {ns : List Int} (hp : ns.Perm (((List.range T.m).flatMap T.ln).map fun x : Nat => (x : Int))) (hs : ns.Pairwise (· ≤ ·)) : ns = T.waiting.map fun x : Nat => (x : Int) := by
  refine List.Perm.eq_of_pairwise (le := (· ≤ ·)) (fun _ _ _ _ a b => Int.le_antisymm a b) hs ?_ (hp.trans ((flat_perm W).map _))
  rw [List.pairwise_map]
  have h : (List.range T.n).Pairwise (· < ·) := List.pairwise_lt_range
  have h2 : T.waiting.Pairwise (· < ·) := h.filter _
  exact h2.imp fun q => by omega
theorem chg_deed (W : T.Wf) (dd : Deed) : T.Chg (T.deedR dd).2 := by
  cases dd with
  | ask x y =>
    show T.Chg (T.askR x y).2
    unfold askR
    split
    · exact chg_refl
    · rename_i hf
      obtain ⟨a, l, rfl, rfl, ha, hl⟩ := fault_none hf
      simp only [Int.toNat_natCast]
      split
      · exact chg_refl
      · rename_i h1
        split
        · exact chg_refl
        · split
          · rename_i h2 h3
            exact chg_take W.sz ha hl h3
          · exact chg_wait W.sz ha (by simpa using h1)
  | give x y =>
    show T.Chg (T.giveR x y).2
    unfold giveR
    split
    · exact chg_refl
    · rename_i hf
      obtain ⟨a, l, rfl, rfl, ha, hl⟩ := fault_none hf
      simp only [Int.toNat_natCast]
      split
      · exact chg_refl
      · split
        · exact chg_refl
        · exact chg_pass W hl
  | leave x =>
    show T.Chg (T.leaveR x).2
    unfold leaveR
    split
    · rename_i h
      obtain ⟨a, rfl, ha⟩ := isA_nat h
      simp only [Int.toNat_natCast]
      exact chg_leave W ha
    · exact chg_refl
end Tb
namespace Tb
variable {T : Tb} {a l k : Nat}
theorem passAll_ln : ∀ (ls : List Nat) {T : Tb}, T.Sz → ls.Nodup → (∀ l ∈ ls, l < T.m) → ∀ k, (k ∈ ls → (passAll ls T).2.ln k = (T.ln k).tail) ∧ (k ∉ ls → (passAll ls T).2.ln k = T.ln k)
  | [], T, s, _, _, k => ⟨(fun h => by cases h), fun _ => rfl⟩
  | l :: r, T, s, nd, hm, k => by
    rw [List.nodup_cons] at nd
    have hl := hm l List.mem_cons_self
    obtain ⟨i1, i2⟩ := passAll_ln r (s.pass (l := l)) nd.2 (fun x hx => by rw [pass_m]; exact hm x (List.mem_cons_of_mem _ hx)) k
    have pl : ∀ j, (T.pass l).ln j = if l = j then (T.ln l).tail else T.ln j := fun j => pass_ln (by rw [s.li]; exact hl)
    refine ⟨fun h => ?_, fun h => ?_⟩
    · show (passAll r (T.pass l)).2.ln k = _
      rcases List.mem_cons.mp h with z | z
      · subst z
        rw [i2 nd.1, pl, if_pos rfl]
      · rw [i1 z, pl, if_neg (fun q : l = k => nd.1 (q ▸ z))]
    · show (passAll r (T.pass l)).2.ln k = _
      rw [List.mem_cons, not_or] at h
      rw [i2 h.2, pl, if_neg (fun q => h.1 q.symm)]
theorem unwait_ln_sub (W : T.Wf) : ((T.unwait a).ln k).Sublist (T.ln k) := by
  cases q : T.wa a with
  | none => rw [unwait_none q]; exact List.Sublist.refl _
  | some l =>
    rw [unwait_some q, stop_ln, line_ln]
    by_cases h : l = k ∧ l < T.lin.length
    · rw [if_pos h, h.1]; exact List.erase_sublist
    · rw [if_neg h]; exact List.Sublist.refl _
/-- a lock that comes to one that waited for it -/
def Came (T T' : Tb) : Prop := ∀ l o, T'.ow l = some o → T.wa o = some l → ∃ r, (o :: r).Sublist (T.ln l) ∧ (T'.ln l).Sublist r
theorem came_same (W : T.Wf) {T' : Tb} (h : ∀ l o, T'.ow l = some o → T.ow l = some o ∨ T.wa o = none) : Came T T' := fun l o h1 h2 => by
  rcases h l o h1 with q | q
  · exact absurd q (W.no o l h2)
  · rw [q] at h2; cases h2
theorem came_passAll {ls : List Nat} (W : T.Wf) (nd : ls.Nodup) (hm : ∀ l ∈ ls, l < T.m) : Came T (passAll ls T).2 := fun l o h1 h2 => by
  by_cases h : l ∈ ls
  · rw [(passAll_ow ls W.sz nd hm l).1 h] at h1
    rw [(passAll_ln ls W.sz nd hm l).1 h]
    unfold heir at h1
    cases q : T.ln l with
    | nil => rw [q] at h1; cases h1
    | cons x r =>
      rw [q] at h1
      have : x = o := Option.some.inj h1
      subst this
      exact ⟨r, List.Sublist.refl _, List.Sublist.refl _⟩
  · rw [(passAll_ow ls W.sz nd hm l).2 h] at h1
    exact absurd h1 (W.no o l h2)
theorem came_leave (W : T.Wf) (ha : a < T.n) : Came T (T.leave a).2 := fun l o h1 h2 => by
  have W1 := W.unwait ha
  by_cases q : (T.unwait a).wa o = some l
  · obtain ⟨r, r1, r2⟩ := came_passAll (ls := (T.unwait a).held a) W1 held_nd (fun l hl => held_lt hl) l o h1 q
    exact ⟨r, r1.trans (unwait_ln_sub W), r2⟩
  · have e : a = o := by
      by_cases z : a = o
      · exact z
      · rw [unwait_wa ha, if_neg z] at q
        exact absurd h2 q
    subst e
    -- it would be its own heir
    obtain ⟨o1, o2⟩ := passAll_ow ((T.unwait a).held a) W1.sz held_nd (fun l hl => held_lt hl) l
    have h1' : (passAll ((T.unwait a).held a) (T.unwait a)).2.ow l = some a := h1
    by_cases z : l ∈ (T.unwait a).held a
    · rw [o1 z] at h1'
      have := (W1.lw l a (heir_mem h1')).2
      rw [unwait_wa ha, if_pos rfl] at this
      cases this
    · rw [o2 z, unwait_ow] at h1'
      exact absurd h1' (W.no a l h2)
/-- what a deed does to the lines -/
theorem deed_lines (W : T.Wf) (dd : Deed) : Came T (T.deedR dd).2 ∧ ((∀ k, ((T.deedR dd).2.ln k).Sublist (T.ln k)) ∧ (T.deedR dd).1 ≠ .ok (.b false) ∨ ∃ a l : Nat, dd = .ask (a : Int) (l : Int) ∧ a < T.n ∧ l < T.m ∧ T.wa a = none ∧ T.deedR dd = (.ok (.b false), T.wait a l)) := by
  cases dd with
  | ask x y =>
    show Came T (T.askR x y).2 ∧ ((∀ k, ((T.askR x y).2.ln k).Sublist (T.ln k)) ∧ (T.askR x y).1.map Out.b ≠ .ok (.b false) ∨ _)
    have hd : T.deedR (.ask x y) = ((T.askR x y).1.map Out.b, (T.askR x y).2) := rfl
    rw [hd]
    cases hf : T.fault x y with
    | some w =>
      rw [askR_err hf]
      exact ⟨came_same W fun l o h => .inl h, .inl ⟨fun k => List.Sublist.refl _, fun z => by cases z⟩⟩
    | none =>
      obtain ⟨a, l, rfl, rfl, ha, hl⟩ := fault_none hf
      rw [askR_nat ha hl]
      by_cases h1 : T.wa a ≠ none
      · rw [if_pos h1]
        exact ⟨came_same W fun l o h => .inl h, .inl ⟨fun k => List.Sublist.refl _, fun z => by cases z⟩⟩
      · rw [if_neg h1]
        have hw : T.wa a = none := by simpa using h1
        by_cases h2 : T.ow l = some a
        · rw [if_pos h2]
          exact ⟨came_same W fun l o h => .inl h, .inl ⟨fun k => List.Sublist.refl _, fun z => by cases z⟩⟩
        · rw [if_neg h2]
          by_cases h3 : T.ow l = none
          · rw [if_pos h3]
            refine ⟨came_same W fun k o h => ?_, .inl ⟨fun k => List.Sublist.refl _, fun z => by cases z⟩⟩
            have h : (T.take a l).ow k = some o := h
            rw [take_ow] at h
            by_cases z : l = k ∧ l < T.m
            · rw [if_pos z] at h
              cases h
              exact .inr hw
            · rw [if_neg z] at h
              exact .inl h
          · rw [if_neg h3]
            exact ⟨came_same W fun l o h => .inl h, .inr ⟨a, l, rfl, ha, hl, hw, rfl⟩⟩
  | give x y =>
    have hd : T.deedR (.give x y) = ((T.giveR x y).1.map Out.o, (T.giveR x y).2) := rfl
    rw [hd]
    cases hf : T.fault x y with
    | some w =>
      rw [giveR_err hf]
      exact ⟨came_same W fun l o h => .inl h, .inl ⟨fun k => List.Sublist.refl _, fun z => by cases z⟩⟩
    | none =>
      obtain ⟨a, l, rfl, rfl, ha, hl⟩ := fault_none hf
      rw [giveR_nat ha hl]
      by_cases h1 : T.wa a ≠ none
      · rw [if_pos h1]
        exact ⟨came_same W fun l o h => .inl h, .inl ⟨fun k => List.Sublist.refl _, fun z => by cases z⟩⟩
      · rw [if_neg h1]
        by_cases h2 : T.ow l ≠ some a
        · rw [if_pos h2]
          exact ⟨came_same W fun l o h => .inl h, .inl ⟨fun k => List.Sublist.refl _, fun z => by cases z⟩⟩
        · rw [if_neg h2]
          refine ⟨came_passAll (ls := [l]) W (by simp) (fun x hx => by rw [List.mem_singleton.mp hx]; exact hl), .inl ⟨fun k => ?_, fun z => by cases z⟩⟩
          show ((T.pass l).ln k).Sublist _
          rw [pass_ln (by rw [W.sz.li]; exact hl)]
          by_cases z : l = k
          · rw [if_pos z, z]; exact List.tail_sublist _
          · rw [if_neg z]; exact List.Sublist.refl _
  | leave x =>
    have hd : T.deedR (.leave x) = ((T.leaveR x).1.map Out.g, (T.leaveR x).2) := rfl
    rw [hd]
    by_cases hx : T.isA x
    · obtain ⟨a, rfl, ha⟩ := isA_nat hx
      rw [leaveR_nat ha]
      refine ⟨came_leave W ha, .inl ⟨fun k => ?_, fun z => by cases z⟩⟩
      have W1 := W.unwait ha
      obtain ⟨o1, o2⟩ := passAll_ln ((T.unwait a).held a) W1.sz held_nd (fun l hl => held_lt hl) k
      show ((passAll ((T.unwait a).held a) (T.unwait a)).2.ln k).Sublist _
      by_cases z : k ∈ (T.unwait a).held a
      · rw [o1 z]; exact (List.tail_sublist _).trans (unwait_ln_sub W)
      · rw [o2 z]; exact unwait_ln_sub W
    · have e : T.leaveR x = (.error .noAgent, T) := by unfold leaveR; rw [if_neg hx]
      rw [e]
      exact ⟨came_same W fun l o h => .inl h, .inl ⟨fun k => List.Sublist.refl _, fun z => by cases z⟩⟩
end Tb
/-! the dict of askings -/
structure AsAt (H : Hp) (ad : Addr) (T : Tb) (g : Nat → Nat) (t : Nat) : Prop where
  dic : ∃ kvs : List (Key × V), H ad = some (.dK kvs) ∧ kvs.length ≤ t ∧ ∀ l a, a ∈ T.ln l → valV kvs (.inl (a : Int)) = some (.int (g a : Int))
  lt : ∀ l a, a ∈ T.ln l → g a < t
  up : ∀ l, (T.ln l).Pairwise fun a b => g a < g b
theorem AsAt.fr {S : Addr → Prop} {H H' : Hp} {ad : Addr} {T : Tb} {g : Nat → Nat} {t : Nat} (h : AsAt H ad T g t) (f : Fr S H H') (n : ¬ S ad) : AsAt H' ad T g t := by
  obtain ⟨kvs, h1, h2, h3⟩ := h.dic
  exact ⟨⟨kvs, f.old _ _ h1 n, h2, h3⟩, h.lt, h.up⟩
theorem AsAt.ext {H H' : Hp} {ad : Addr} {T : Tb} {g : Nat → Nat} {t : Nat} (h : AsAt H ad T g t) (e : LamX.ExtN H H') : AsAt H' ad T g t := by
  obtain ⟨kvs, h1, h2, h3⟩ := h.dic
  exact ⟨⟨kvs, e _ _ h1 (fun ps z => by cases z), h2, h3⟩, h.lt, h.up⟩
theorem AsAt.sub {H : Hp} {ad : Addr} {T T' : Tb} {g : Nat → Nat} {t t' : Nat} (h : AsAt H ad T g t) (s : ∀ k, (T'.ln k).Sublist (T.ln k)) (ht : t ≤ t') : AsAt H ad T' g t' := by
  obtain ⟨kvs, h1, h2, h3⟩ := h.dic
  exact ⟨⟨kvs, h1, Nat.le_trans h2 ht, fun l a ha => h3 l a ((s l).subset ha)⟩, fun l a ha => Nat.lt_of_lt_of_le (h.lt l a ((s l).subset ha)) ht, fun l => (h.up l).sublist (s l)⟩
theorem putK_len (kvs : List (Key × V)) (k : Key) (v : V) : (putK kvs k v).length ≤ kvs.length + 1 := by
  unfold putK
  split
  · rw [List.length_map]; omega
  · simp
theorem AsAt.put {H : Hp} {ad : Addr} {T : Tb} {g : Nat → Nat} {t a l : Nat} (h : AsAt H ad T g t) (W : T.Wf) (ha : a < T.n) (hl : l < T.m) (hw : T.wa a = none) :
    ∃ kvs, H ad = some (.dK kvs) ∧ kvs.length ≤ t ∧ AsAt (upd H ad (.dK (putK kvs (.inl (a : Int)) (.int (t : Int))))) ad (T.wait a l) (fun x => if x = a then t else g x) (t + 1) := by
  obtain ⟨kvs, h1, h2, h3⟩ := h.dic
  have na : ∀ k, a ∉ T.ln k := fun k z => by
    have := (W.lw k a z).2
    rw [hw] at this; cases this
  have ln : ∀ k b, b ∈ (T.wait a l).ln k → (b ∈ T.ln k ∧ b ≠ a) ∨ b = a := fun k b hb => by
    rw [Tb.wait_ln] at hb
    by_cases z : l = k ∧ l < T.lin.length
    · rw [if_pos z] at hb
      rcases List.mem_append.mp hb with q | q
      · rw [z.1] at q
        exact .inl ⟨q, fun w => na k (w ▸ q)⟩
      · exact .inr (List.mem_singleton.mp q)
    · rw [if_neg z] at hb
      exact .inl ⟨hb, fun w => na k (w ▸ hb)⟩
  refine ⟨kvs, h1, h2, ⟨_, upd_same, Nat.le_trans (putK_len _ _ _) (by omega), fun k b hb => ?_⟩, fun k b hb => ?_, fun k => ?_⟩
  · rw [valV_put]
    rcases ln k b hb with ⟨q1, q2⟩ | q
    · rw [if_neg (fun z => q2 (by have := Sum.inl.inj z; omega))]
      show valV kvs _ = some (V.int ((if b = a then t else g b : Nat) : Int))
      rw [if_neg q2]
      exact h3 k b q1
    · subst q
      show (if _ then _ else _) = some (V.int ((if b = b then t else g b : Nat) : Int))
      rw [if_pos rfl, if_pos rfl]
  · show (if b = a then t else g b) < t + 1
    rcases ln k b hb with ⟨q1, q2⟩ | q
    · rw [if_neg q2]; have := h.lt k b q1; omega
    · rw [if_pos q]; omega
  · have old : (T.ln k).Pairwise fun x y => (if x = a then t else g x) < (if y = a then t else g y) := (h.up k).imp_of_mem fun {x y} hx hy q => by
      rw [if_neg (fun z : x = a => na k (z ▸ hx)), if_neg (fun z : y = a => na k (z ▸ hy))]
      exact q
    rw [Tb.wait_ln]
    by_cases z : l = k ∧ l < T.lin.length
    · rw [if_pos z, z.1, List.pairwise_append]
      refine ⟨old, by simp, fun x hx y hy => ?_⟩
      rw [List.mem_singleton.mp hy, if_pos rfl, if_neg (fun w : x = a => na k (w ▸ hx))]
      exact h.lt k x hx
    · rw [if_neg z]; exact old
section
variable {K : PySem.W.Frag} {σ : L2.St} {H : Hp} {Q : VK} {tt : TT} {te tl : TE} {vs : List Nat} {g : TG}
theorem r_lcLx (h : tl σ H fun x H1 => tLc (iList K (tC x)) g tt te vs σ H1 Q) : tLc (iList K tl) g tt te vs σ H Q := h
theorem r_dnew (h : ∀ p H', H p = none → H' p = some (.dK []) → Fr No H H' → Q (.ref p) H') : tDNewK σ H Q := r_new h
theorem r_dgInt {ad : Addr} {kvs : List (Key × V)} {a : Nat} {v : V} (e : H ad = some (.dK kvs)) (hv : valV kvs (.inl (a : Int)) = some v) (q : Q v H) : DgOn (.ref ad) (.int (a : Int)) H Q := by
  have := DGet.k (k := .inl (a : Int)) e
  rw [hv] at this
  exact ⟨ad, v, rfl, this, q⟩
end
/-- the check of the last loop of law k03 -/
def Chk (H : Hp) (ad : Addr) (T T' : Tb) : Prop := ∀ l o, T'.ow l = some o → T.wa o = some l → ∃ kvs : List (Key × V), H ad = some (.dK kvs) ∧ ∃ g : Nat → Nat, valV kvs (.inl (o : Int)) = some (.int (g o : Int)) ∧ ∀ b ∈ T'.ln l, valV kvs (.inl (b : Int)) = some (.int (g b : Int)) ∧ g o < g b
theorem Chk.fr {S : Addr → Prop} {H H' : Hp} {ad : Addr} {T T' : Tb} (h : Chk H ad T T') (f : Fr S H H') (n : ¬ S ad) : Chk H' ad T T' := fun l o h1 h2 => by
  obtain ⟨kvs, e, r⟩ := h l o h1 h2
  exact ⟨kvs, f.old _ _ e n, r⟩
theorem AsAt.chk {H : Hp} {ad : Addr} {T T' : Tb} {g : Nat → Nat} {t : Nat} (h : AsAt H ad T g t) (c : Tb.Came T T') : Chk H ad T T' := fun l o h1 h2 => by
  obtain ⟨kvs, e1, e2, e3⟩ := h.dic
  obtain ⟨r, r1, r2⟩ := c l o h1 h2
  have up := (h.up l).sublist r1
  rw [List.pairwise_cons] at up
  exact ⟨kvs, e1, g, e3 l o (r1.subset List.mem_cons_self), fun b hb => ⟨e3 l b (r1.subset (List.mem_cons_of_mem _ (r2.subset hb))), up.1 b (r2.subset hb)⟩⟩
section
variable {σ : L2.St} {H : Hp} {D : Ends} {td ty tv : TE}
theorem r_dputA (h : tv σ H fun v H1 => td σ H1 fun x H2 => ty σ H2 fun y H3 => ∃ a H4, x = .ref a ∧ DPut H3 a y v H4 ∧ D.nx σ H4) : sDPut td ty tv D σ H := h
end
theorem tabs_frD {H H' : Hp} {T : List (Addr × Str)} {ad : Addr} {kvs : List (Key × V)} (t : LamX.Tabs T H) (f : Fr (Only1 ad) H H') (e : H ad = some (.dK kvs)) : LamX.Tabs T H' := fun p hp => by
  obtain ⟨ps, h1, h2, h3⟩ := t p hp
  refine ⟨ps, f.old _ _ h1 (fun z => ?_), h2, fun pos cv hc => ?_⟩
  · rw [show p.1 = ad from z, e] at h1
    cases h1
  · obtain ⟨c, e1, e2⟩ := h3 pos cv hc
    refine ⟨c, e1, f.old _ _ e2 (fun z => ?_)⟩
    rw [show c = ad from z, e] at e2
    unfold LamX.CodeO at e2
    cases e2
end AL

namespace AL
open PySem PySem.Spec PyProof.Rows L2
theorem units1 {A : Around} {k : Nat} (hr : Room k A) : A.units + 65 < cLine := by
  have := hr.un
  omega
/-! # who waits for whom, rings: plain -/
namespace Tb
def nx (T : Tb) (a : Nat) : Option Nat := match T.wa a with
  | none => none
  | some l => T.ow l
/-- on from here, as long as there is one that was not met yet -/
def wk (T : Tb) : Nat → List Nat → Option Nat → List Nat × Option Nat
  | 0, f, h => (f, h)
  | _ + 1, f, none => (f, none)
  | k + 1, f, some b => if b ∈ f then (f, some b) else wk T k (f ++ [b]) (T.nx b)
def way (T : Tb) (a : Nat) : List Nat × Option Nat := wk T T.n [a] (T.nx a)
def chainT (T : Tb) (a : Nat) : List Nat := (T.way a).1
def mx : List Nat → Nat
  | [] => 0
  | a :: r => max a (mx r)
def ringAt (T : Tb) (a : Nat) : Option (List Nat) := if (T.way a).2 = some a ∧ mx (T.way a).1 = a then some (T.way a).1 else none
def ringsT (T : Tb) : List (List Nat) := (List.range T.n).filterMap T.ringAt
variable {T : Tb} {a b : Nat}
theorem nx_lt (W : T.Wf) (h : T.nx a = some b) : b < T.n := by
  unfold nx at h
  split at h
  · cases h
  · exact W.oh _ _ h
/-- what the loop keeps -/
structure Wk (T : Tb) (f : List Nat) (h : Option Nat) (R : List Nat × Option Nat) : Prop where
  nd : f.Nodup
  lt : ∀ x ∈ f, x < T.n
  hl : ∀ x, h = some x → x < T.n
  eq : wk T (T.n + 1 - f.length) f h = R
theorem Wk.len {f : List Nat} {h : Option Nat} {R : List Nat × Option Nat} (w : Wk T f h R) : f.length ≤ T.n := nodup_le w.nd w.lt
theorem Wk.stop0 {f : List Nat} {R : List Nat × Option Nat} (w : Wk T f none R) : R = (f, none) := by
  have := w.len
  have e := w.eq
  obtain ⟨k, hk⟩ : ∃ k, T.n + 1 - f.length = k + 1 := ⟨T.n - f.length, by omega⟩
  rw [hk] at e
  exact e.symm
theorem Wk.stop1 {f : List Nat} {R : List Nat × Option Nat} (w : Wk T f (some b) R) (hb : b ∈ f) : R = (f, some b) := by
  have := w.len
  have e := w.eq
  obtain ⟨k, hk⟩ : ∃ k, T.n + 1 - f.length = k + 1 := ⟨T.n - f.length, by omega⟩
  rw [hk] at e
  unfold wk at e
  rw [if_pos hb] at e
  exact e.symm
theorem Wk.step {f : List Nat} {R : List Nat × Option Nat} (W : T.Wf) (w : Wk T f (some b) R) (hb : b ∉ f) : Wk T (f ++ [b]) (T.nx b) R ∧ f.length + 1 ≤ T.n := by
  have hbn := w.hl b rfl
  have nd : (f ++ [b]).Nodup := by
    rw [List.nodup_append]
    exact ⟨w.nd, by simp, fun x hx y hy z => hb (by rw [List.mem_singleton.mp hy] at z; exact z ▸ hx)⟩
  have lt : ∀ x ∈ f ++ [b], x < T.n := fun x hx => by
    rcases List.mem_append.mp hx with q | q
    · exact w.lt x q
    · rw [List.mem_singleton.mp q]; exact hbn
  have l2 := nodup_le nd lt
  rw [List.length_append, List.length_singleton] at l2
  refine ⟨⟨nd, lt, fun x hx => nx_lt W hx, ?_⟩, l2⟩
  have e := w.eq
  obtain ⟨k, hk⟩ : ∃ k, T.n + 1 - f.length = k + 1 := ⟨T.n - f.length, by omega⟩
  rw [hk] at e
  unfold wk at e
  rw [if_neg hb] at e
  rw [List.length_append, List.length_singleton]
  have : T.n + 1 - (f.length + 1) = k := by omega
  rw [this]
  exact e
theorem Wk.init (W : T.Wf) (ha : a < T.n) : Wk T [a] (T.nx a) (T.way a) :=
  ⟨by simp, fun x hx => by rw [List.mem_singleton.mp hx]; exact ha, fun x hx => nx_lt W hx, by
    show wk T (T.n + 1 - 1) [a] (T.nx a) = wk T T.n [a] (T.nx a)
    rw [Nat.add_sub_cancel]⟩
/-- the law's chain begins one step ahead -/
theorem Wk.init0 (ha : a < T.n) (W : T.Wf) : Wk T [] (some a) (T.way a) :=
  ⟨by simp, (fun x hx => by cases hx), (fun x hx => by cases hx; exact ha), by
    show wk T (T.n + 1) [] (some a) = wk T T.n [a] (T.nx a)
    have e : wk T (T.n + 1) [] (some a) = if a ∈ ([] : List Nat) then ([], some a) else wk T T.n ([] ++ [a]) (T.nx a) := rfl
    rw [e, if_neg (by simp)]
    rfl⟩
theorem wk_ok (W : T.Wf) : ∀ (k : Nat) (f : List Nat) (h : Option Nat), f.Nodup → (∀ x ∈ f, x < T.n) → (∀ x, h = some x → x < T.n) → (∃ i z, f = i ++ [z] ∧ T.nx z = h) →
    (wk T k f h).1.Nodup ∧ (∀ x ∈ (wk T k f h).1, x < T.n) ∧ ∃ i z, (wk T k f h).1 = i ++ [z] ∧ T.nx z = (wk T k f h).2
  | 0, f, h, nd, lt, hl, la => ⟨nd, lt, la⟩
  | k + 1, f, none, nd, lt, hl, la => ⟨nd, lt, la⟩
  | k + 1, f, some b, nd, lt, hl, la => by
    by_cases hb : b ∈ f
    · have e : wk T (k + 1) f (some b) = (f, some b) := by
        show (if b ∈ f then (f, some b) else wk T k (f ++ [b]) (T.nx b)) = _
        rw [if_pos hb]
      rw [e]
      exact ⟨nd, lt, la⟩
    · have e : wk T (k + 1) f (some b) = wk T k (f ++ [b]) (T.nx b) := by
        show (if b ∈ f then (f, some b) else wk T k (f ++ [b]) (T.nx b)) = _
        rw [if_neg hb]
      rw [e]
      refine wk_ok W k (f ++ [b]) (T.nx b) ?_ (fun x hx => ?_) (fun x hx => nx_lt W hx) ⟨f, b, rfl, rfl⟩
      · rw [List.nodup_append]
        exact ⟨nd, by simp, fun x hx y hy z => hb (by rw [List.mem_singleton.mp hy] at z; exact z ▸ hx)⟩
      · rcases List.mem_append.mp hx with q | q
        · exact lt x q
        · rw [List.mem_singleton.mp q]; exact hl b rfl
theorem way_ok (W : T.Wf) (ha : a < T.n) : (T.way a).1.Nodup ∧ (∀ x ∈ (T.way a).1, x < T.n) ∧ ∃ i z, (T.way a).1 = i ++ [z] ∧ T.nx z = (T.way a).2 :=
  wk_ok W T.n [a] (T.nx a) (by simp) (fun x hx => by rw [List.mem_singleton.mp hx]; exact ha) (fun x hx => nx_lt W hx) ⟨[], a, rfl, rfl⟩
theorem le_mx : ∀ {xs : List Nat} {x : Nat}, x ∈ xs → x ≤ mx xs
  | y :: r, x, h => by
    unfold mx
    rcases List.mem_cons.mp h with q | q
    · rw [q]; exact Nat.le_max_left _ _
    · exact Nat.le_trans (le_mx q) (Nat.le_max_right _ _)
theorem mx_mem : ∀ {xs : List Nat}, xs ≠ [] → mx xs ∈ xs
  | [x], _ => by simp [mx]
  | x :: y :: r, _ => by
    have ih := mx_mem (xs := y :: r) (by simp)
    have e : mx (x :: y :: r) = max x (mx (y :: r)) := rfl
    rw [e]
    rcases Nat.le_total x (mx (y :: r)) with h | h
    · rw [Nat.max_eq_right h]; exact List.mem_cons_of_mem _ ih
    · rw [Nat.max_eq_left h]; exact List.mem_cons_self
theorem mx_int {xs : List Nat} {m : Int} (hm : m ∈ xs.map fun x : Nat => (x : Int)) (hb : ∀ y, y ∈ xs.map (fun x : Nat => (x : Int)) → y ≤ m) : m = (mx xs : Int) := by
  obtain ⟨x, hx, rfl⟩ := List.mem_map.mp hm
  have h1 := le_mx hx
  have h2 := hb _ (List.mem_map.mpr ⟨mx xs, mx_mem (fun z => by rw [z] at hx; cases hx), rfl⟩)
  omega
end Tb
section
variable {K : PySem.W.Frag} {σ : L2.St} {H : Hp} {Q : VK} {te : TE} {r : V → Hp → VK → Prop}
theorem r_un (h : te σ H fun x H1 => r x H1 Q) : tUn r te σ H Q := h
theorem r_rU {g : Int → V} {i : Int} (h : Q (g i) H) : rU g (.int i) H Q := ⟨i, rfl, h⟩
theorem r_maxN {p : Addr} {xs : List Nat} (e : H p = some (.lst (xs.map nV))) (h0 : xs ≠ []) (q : Q (.int (Tb.mx xs : Int)) H) : rMax K [.ref p] H Q := by
  refine ⟨p, xs.map (fun x : Nat => (x : Int)), rfl, ?_, ?_, fun m h1 h2 => ?_⟩
  · refine SqL.of ?_
    rw [e, List.map_map]
    rfl
  · rw [List.length_map]
    exact List.length_pos_iff.mpr h0
  · rw [Tb.mx_int h1 h2]
    exact q
theorem r_tupN {p : Addr} {xs : List V} (e : H p = some (.lst xs)) (q : ∀ t H', H t = none → H' t = some (.tup xs) → Fr No H H' → Q (.ref t) H') : rTupQ K [.ref p] H Q := ⟨p, xs, rfl, .inl ⟨SqL.of e, r_new q⟩⟩
theorem r_ixLast {p : Addr} {xs : List V} {v : V} (e : H p = some (.lst (xs ++ [v]))) (q : Q v H) : rIxL K (.ref p) (.int (-1)) H Q := ⟨p, _, _, _, rfl, rfl, SqL.of e, atI_last xs v, q⟩
end
/-! promises -/
abbrev sp_next_of (K : PySem.W.Frag) : Sp := sp2 fun x y H Q _ => ∃ A T, ∃ a : Nat, x = .ref A.p ∧ y = .int (a : Int) ∧ TbK K H A T ∧ T.Wf ∧ a < T.n ∧ Q (oV (T.nx a)) H
abbrev sp_chain (K : PySem.W.Frag) : Sp := sp2 fun x y H Q _ => ∃ A T, ∃ a : Nat, x = .ref A.p ∧ y = .int (a : Int) ∧ TbK K H A T ∧ T.Wf ∧ a < T.n ∧ ∀ p H', H p = none → H' p = some (.lst ((T.chainT a).map nV)) → Fr No H H' → Q (.ref p) H'
abbrev sp_ring_of (K : PySem.W.Frag) : Sp := sp2 fun x y H Q _ => ∃ A T, ∃ a : Nat, x = .ref A.p ∧ y = .int (a : Int) ∧ TbK K H A T ∧ T.Wf ∧ a < T.n ∧
  (∀ H', T.ringAt a = none → Fr No H H' → Q .non H') ∧ ∀ r p H', T.ringAt a = some r → H p = none → H' p = some (.tup (r.map nV)) → Fr No H H' → Q (.ref p) H'
def ringD (r : List Nat) : PyData := .tuple (r.map fun x : Nat => PyData.int (x : Int))
abbrev sp_rings (K : PySem.W.Frag) : Sp := sp1 fun x H Q _ => ∃ A T, x = .ref A.p ∧ TbK K H A T ∧ T.Wf ∧ ∀ p H', H p = none → LsAt H' p (T.ringsT.map ringD) → Fr No H H' → Q (.ref p) H'
/-- a fresh list is written -/
theorem Fr.mutL {H H1 : Hp} {p : Addr} {u : HO} (f : Fr No H H1) (h : H p = none) : Fr No H (upd H1 p u) := f.mut h
section
variable {K : PySem.W.Frag} {H : Hp} {Q : VK} {p : Addr} {b : Nat} {f : List Nat}
theorem r_notInL (e : H p = some (.lst (f.map nV))) (q : Q (.bl (!decide (b ∈ f))) H) : rIn K true (.int (b : Int)) (.ref p) H Q := ⟨p, _, rfl, .inl (SqL.of e), rfl, nats_flat _, by
  have ei : inV (V.int (b : Int)) (f.map nV) = decide (b ∈ f) := inV_nats
  rw [if_pos rfl, ei]
  exact q⟩
theorem r_inL (e : H p = some (.lst (f.map nV))) (q : Q (.bl (decide (b ∈ f))) H) : rIn K false (.int (b : Int)) (.ref p) H Q := ⟨p, _, rfl, .inl (SqL.of e), rfl, nats_flat _, by
  have ei : inV (V.int (b : Int)) (f.map nV) = decide (b ∈ f) := inV_nats
  rw [if_neg Bool.false_ne_true, ei]
  exact q⟩
end
theorem td_nats (H : Hp) : ∀ xs : List Nat, TdAll H (xs.map nV) (xs.map fun x : Nat => PyData.int (x : Int))
  | [] => .nil
  | x :: r => .cons (.int _) (td_nats H r)
theorem some_map {α : Type} : ∀ (xs : List α) (f : α → Option (List Nat)), ((xs.filter fun a => (f a).isSome).map fun a => match f a with | none => PyData.none | some r => ringD r) = (xs.filterMap f).map ringD
  | [], f => rfl
  | x :: r, f => by
    have ih := some_map r f
    cases q : f x with
    | none =>
      rw [List.filter_cons, q]
      simp only [Option.isSome_none, Bool.false_eq_true, if_false, List.filterMap_cons, q]
      exact ih
    | some y =>
      rw [List.filter_cons, q]
      simp only [Option.isSome_some, if_true, List.filterMap_cons, q, List.map_cons]
      rw [ih]
abbrev sp_is_ring (K : PySem.W.Frag) : Sp := sp2 fun x y H Q _ => ∃ A T d, x = .ref A.p ∧ TbK K H A T ∧ T.Wf ∧ Td H y d ∧ Cmp d ∧ ∀ H', Fr No H H' → Q (.bl ((T.ringsT.map ringD).any fun e => PyData.eqv e d)) H'
abbrev sp_Lnext (K : PySem.W.Frag) : Sp := sp2 fun x y H Q _ => ∃ D T, ∃ a : Nat, x = .ref D.d ∧ y = .int (a : Int) ∧ LdAt H D T ∧ T.Wf ∧ a < T.n ∧ Q (oV (T.nx a)) H
abbrev sp_Lchain (K : PySem.W.Frag) : Sp := sp2 fun x y H Q _ => ∃ D T, ∃ a : Nat, x = .ref D.d ∧ y = .int (a : Int) ∧ LdAt H D T ∧ T.Wf ∧ a < T.n ∧ ∀ p H', H p = none → H' p = some (.lst ((T.chainT a).map nV)) → Fr No H H' → Q (.ref p) H'
abbrev sp_Lrings (K : PySem.W.Frag) : Sp := sp1 fun x H Q _ => ∃ D T, x = .ref D.d ∧ LdAt H D T ∧ T.Wf ∧ ∀ p H', H p = none → LsAt H' p (T.ringsT.map ringD) → Fr No H H' → Q (.ref p) H'
theorem ringD_cmp (r : List Nat) : (ringD r).canLay0 = true ∧ (ringD r).depth ≤ 59 := by
  have h := nats_cmp r
  unfold ringD
  refine ⟨by simp only [PyData.canLay0]; exact h.1, ?_⟩
  simp only [PyData.depth]
  have := nats_depth r
  omega
theorem rings_cmp (rs : List (List Nat)) : CmpAll (rs.map ringD) := CmpAll.of fun d hd => by
  obtain ⟨r, _, rfl⟩ := List.mem_map.mp hd
  exact ringD_cmp r
/-- a table and the law's own, grown by deeds -/
abbrev sp_Lgrown (Tl : List (Addr × Str)) (K : PySem.W.Frag) : Sp := sp2 fun x y H Q _ => ∃ st sc ns, ∃ most : Nat, x = .ref st ∧ y = .int (most : Int) ∧ most ≤ 900 ∧ StAt K H st sc ns ∧ ScF K sc ns (Only1 st) ∧ LamX.Tabs Tl H ∧
  ∀ A D T p H', H' p = some (.tup [.ref A.p, .ref D.d]) → Lw K A D st sc ns Tl T H' → LwS K A D st sc ns → Q (.ref p) H'
end AL

namespace AL
open PySem PySem.Spec PyProof.Rows L2
/-! # t[::-1], t a tuple -/
theorem adj_rev (n : Nat) : Builtin.Slice.sliceAdjust none none (-1) (n : Int) = ((n : Int) - 1, -1) := by
  unfold Builtin.Slice.sliceAdjust
  simp
theorem places_rev (n : Nat) : Builtin.Slice.slicePlaces ((n : Int) - 1) (-1) (-1) = n := by
  unfold Builtin.Slice.slicePlaces
  rw [if_neg (by decide)]
  by_cases h : n = 0
  · subst h
    rfl
  · rw [if_pos (by omega)]
    have e : ((n : Int) - 1 - -1 - 1) / (- -1) + 1 = (n : Int) := by
      have e1 : (- -1 : Int) = 1 := by decide
      rw [e1, Int.ediv_one]
      omega
    rw [e]
    simp
theorem fm_congr {α β : Type} {f g : α → Option β} : ∀ {l : List α}, (∀ m ∈ l, f m = g m) → l.filterMap f = l.filterMap g
  | [], _ => rfl
  | x :: r, h => by
    rw [List.filterMap_cons, List.filterMap_cons, h x List.mem_cons_self, fm_congr fun m hm => h m (List.mem_cons_of_mem _ hm)]
theorem pick_rev (xs : Array Value) : ((List.range xs.size).filterMap fun (m : Nat) => xs[(((xs.size : Int) - 1) + (m : Int) * (-1)).toNat]?).toArray = xs.toList.reverse.toArray := by
  congr 1
  have e1 : (List.range xs.size).filterMap (fun (m : Nat) => xs[(((xs.size : Int) - 1) + (m : Int) * (-1)).toNat]?) = ((List.range xs.size).map fun k => xs.size - 1 - k).filterMap (xs[·]?) := by
    rw [List.filterMap_map]
    refine fm_congr fun m hm => ?_
    have hm' := List.mem_range.mp hm
    show _ = xs[xs.size - 1 - m]?
    have e2 : (((xs.size : Int) - 1) + (m : Int) * (-1)).toNat = xs.size - 1 - m := by omega
    rw [e2]
  rw [e1, PySem.W.krv_range, List.filterMap_reverse, PySem.W.krv_all]
section
open HT
variable {prog : Program} {w : World} {A : Around} {E : Value → Shared → Prop} {s : Shared}
theorem applied_rev {sl : Addr} {vl vu vs : Value} {n : Nat} {Q : Int × Int × Nat → Shared → Prop} (hs : s.heap.IsSliceOf sl vl vu vs) (pl : IsPart vl none) (pu : IsPart vu none) (ps : IsPart vs (some (-1)))
    (h : Q ((n : Int) - 1, -1, n) s) : wpAny (model prog w) A (Builtin.Slice.sliceApplied (.ref sl) (pure (n : Int))) Q E s := by
  obtain ⟨o, ho, hc, hd⟩ := id hs
  unfold Builtin.Slice.sliceApplied Builtin.Slice.sliceFields
  refine wpAny_bind (wpAny_bind (wpAny_field ho hd (x := vl) rfl (wpAny_bind (wpAny_field ho hd (x := vu) rfl
    (wpAny_bind (wpAny_field ho hd (x := vs) rfl (wpAny_pure ?_)))))))
  refine wpAny_bind (slicePart_ ps ?_)
  show wpAny _ _ (if ((-1 : Int) == 0) = true then _ else _) _ _ s
  rw [if_neg (by decide)]
  refine wpAny_bind (slicePart_ pl
    (wpAny_bind (slicePart_ pu (wpAny_bind (wpAny_pure ?_)))))
  show wpAny _ _ (match Builtin.Slice.sliceAdjust none none (-1) (n : Int) with | (lo, hi) => pure (lo, (-1 : Int), Builtin.Slice.slicePlaces lo hi (-1))) _ _ s
  rw [adj_rev]
  show wpAny _ _ (pure ((n : Int) - 1, (-1 : Int), Builtin.Slice.slicePlaces ((n : Int) - 1) (-1) (-1))) _ _ s
  rw [places_rev]
  exact wpAny_pure h
theorem getItem_tup_rev {t sl : Addr} {items : Array Value} {vl vu vs : Value} {Q : Value → Shared → Prop} (ht : IsTup s.heap t items) (hs : s.heap.IsSliceOf sl vl vu vs) (pl : IsPart vl none) (pu : IsPart vu none) (ps : IsPart vs (some (-1)))
    (h : Q (.ref s.heap.objs.size) { s with heap := s.heap.push { cls := .type "tuple", data := .seq items.toList.reverse.toArray } }) (hsz : items.size ≤ sizeLine) : wpAny (model prog w) A (getItem (.ref t) (.ref sl)) Q E s := by
  have ok : sizeOk (.seq items.toList.reverse.toArray) := by
    show items.toList.reverse.toArray.size ≤ sizeLine
    rw [List.size_toArray, List.length_reverse, Array.length_toList]
    exact hsz
  obtain ⟨o, ho, hc, hd⟩ := id hs
  have ty : s.TypeIs (.ref sl) "slice" := ⟨o, ho, hc⟩
  unfold getItem
  try with_reducible refine wpAny_holding ?_
  try refine wpAny_bind (wpAny_pure ?_)
  have tt := ht.typeIs
  refine wpAny_bind (wpAny_sequenceKey tt (by decide) ?_)
  refine wpAny_bind (wpAny_callSpecial?_slot (name := Str.ofString "__getitem__") tt slot_tuple_getitem
    (wpAny_call_entry slot_tuple_getitem tt entry_tuple_getitem ?_ (args_tuple_getitem _ _)))
  show wpAny _ _ (Builtin.Tuple.tupleItemsOf (.ref t) >>= fun z => _) _ _ s
  refine wpAny_bind (tupleItemsOf_ ht (wpAny_bind (wpAny_typeOf ty ?_)))
  rw [if_pos (by decide)]
  refine wpAny_bind (applied_rev hs pl pu ps ?_)
  have off : ¬ ((((items.size : Int) - 1) == 0 && (-1 : Int) == 1 && items.size == items.size) = true) := by
    intro q
    rw [Bool.and_eq_true, Bool.and_eq_true] at q
    exact absurd q.1.2 (by decide)
  show wpAny _ _ (if (((items.size : Int) - 1) == 0 && (-1 : Int) == 1 && items.size == items.size) = true then _ else _) _ _ s
  rw [if_neg off, pick_rev]
  first
    | exact wpAny_bind (m := Builtin.Tuple.tupleExact _) (wpAny_newObj_type (wpAny_pure ⟨_, rfl, wpAny_pure h⟩) ok)
    | exact wpAny_bind (m := Builtin.Tuple.tupleExact _) (wpAny_newObj_type (wpAny_bind (wpAny_pure (wpAny_pure ⟨_, rfl, wpAny_pure h⟩))) ok)
    | exact wpAny_bind (wpAny_bind (m := Builtin.Tuple.tupleExact _) (wpAny_newObj_type (wpAny_pure (wpAny_pure ⟨_, rfl, wpAny_pure h⟩)) ok))
    | exact wpAny_bind (wpAny_bind (m := Builtin.Tuple.tupleExact _) (wpAny_newObj_type (wpAny_pure ⟨_, rfl, wpAny_pure h⟩) ok))
end
section
variable {X : Cx}
def tRevT (K : PySem.W.Frag) (te : TE) : TE := fun σ H Q => te σ H fun x H1 => ∃ a xs, x = .ref a ∧ SqT K H1 a xs ∧ ∀ p, H1 p = none → Q (.ref p) (upd H1 p (.tup xs.reverse))
theorem pe_revT {e : Expr} {te : TE} {k : Nat} {p1 p2 p3 pos : Pos} (he : PE X e te) :
    PE X (.Subscript e (.Slice none none (some (.UnaryOp .USub (.Constant (.int 1) k p1) p2)) p3) pos) (tRevT X.K te) := by
  refine ⟨fun pins s σ H Q I h => ?_⟩
  refine Subscript_ (thn (he.run pins s σ H _ I h) fun v s1 ⟨x, H1, I1, r1, a, xs, ex, hx, q⟩ => ?_)
  subst ex
  cases r1
  have st : PO X (some (.UnaryOp .USub (.Constant (.int 1) k p1) p2)) (tPart (tUn (rU fun i => .int (-i)) (tC (.int 1)))) :=
    po_some (pe_un un_neg pe_int)
  refine wpAny_Slice (thn (po_none.run pins s1 σ H1 (fun z Hz => z = none ∧ Hz = H1) I1 ⟨rfl, rfl⟩)
    fun vl s2 ⟨l, H2, I2, pl, el, e2⟩ => ?_)
  subst el e2
  refine thn (po_none.run pins s2 σ H2 (fun z Hz => z = none ∧ Hz = H2) I2 ⟨rfl, rfl⟩)
    fun vu s3 ⟨u, H3, I3, pu, eu, e3⟩ => ?_
  subst eu e3
  refine thn (st.run pins s3 σ H3 (fun o H4 => o = some (-1) ∧ H4 = H3) I3 ⟨1, rfl, -1, rfl, rfl, rfl⟩) fun vs s4 ⟨o, H4, I4, ps, eo, e4⟩ => ?_
  subst eo e4
  have J : Inv X pins σ H4 { s4 with heap := s4.heap.push { cls := .type "slice", data := .fields #[vl, vu, vs] } } :=
    I4.kept (t' := s4.toks) fun b ob q => Heap.get?_push_of_some _ q
  obtain ⟨its, r, ht, hz⟩ := J.tuple hx
  have hl := r.length
  show wpAny (model X.prog X.w) X.A (subscriptTail e _ (.ref a) (.ref s4.heap.objs.size)) (EP X pins σ Q) X.xe _
  refine tail_any (ops := [.ref a, .ref s4.heap.objs.size]) ht.typeIs (PyProof.Rows.slot_tuple_getitem.lookup) ?_ (by with_unfolding_all rfl)
  refine getItem_tup_rev ht (Heap.IsSliceOf.new _ vl vu vs) pl pu ps ?_ (by rw [List.size_toArray]; omega)
  refine ⟨.ref _, _, J.laid (t' := s4.toks) (o := .tup xs.reverse) (fun b ob q => Heap.get?_push_of_some _ q) (Nat.le_refl _) ?_, rfl, q _ (J.hok.fresh (Nat.le_refl _))⟩
  exact ⟨by rw [List.length_reverse]; exact hz, _, r.reverse, IsTup.new _ _⟩
def RevOn (K : PySem.W.Frag) (x : V) (H1 : Hp) (Q : VK) : Prop := ∃ a xs, x = .ref a ∧ SqT K H1 a xs ∧ ∀ p, H1 p = none → Q (.ref p) (upd H1 p (.tup xs.reverse))
theorem r_revT {K : PySem.W.Frag} {σ : L2.St} {H : Hp} {Q : VK} {te : TE} (h : te σ H fun x H1 => RevOn K x H1 Q) : tRevT K te σ H Q := h
end
theorem k_revT {X : Cx} {K : PySem.W.Frag} {e : Expr} {te : TE} {k : Nat} {p1 p2 p3 pos : Pos} (hK : X.K = K) (he : PE X e te) : PE X (.Subscript e (.Slice none none (some (.UnaryOp .USub (.Constant (.int 1) k p1) p2)) p3) pos) (tRevT K te) := hK ▸ pe_revT he
/-! # tuples of ints -/
def IT (H : Hp) (v : V) (n : Nat) : Prop := ∃ (a : Addr) (xs : List Int), v = .ref a ∧ H a = some (.tup (xs.map V.int)) ∧ xs.length ≤ n
section
variable {K : PySem.W.Frag} {S : Addr → Prop} {H H' : Hp} {Q : VK} {v u : V} {n m : Nat}
theorem IT.fr (h : IT H v n) (f : Fr S H H') : IT H' v n := by
  obtain ⟨a, xs, e, h1, h2⟩ := h
  exact ⟨a, xs, e, f.tup _ _ h1, h2⟩
theorem IT.le (h : IT H v n) (l : n ≤ m) : IT H v m := by
  obtain ⟨a, xs, e, h1, h2⟩ := h
  exact ⟨a, xs, e, h1, Nat.le_trans h2 l⟩
theorem cut_map (xs : List Int) (lo hi : Option Int) : ∃ ys : List Int, cutV (xs.map V.int) lo hi = ys.map V.int ∧ ys.length ≤ xs.length := by
  unfold cutV
  refine ⟨(xs.drop (HT.sIx (xs.map V.int).length 0 lo)).take (HT.sIx (xs.map V.int).length (xs.map V.int).length hi - HT.sIx (xs.map V.int).length 0 lo), ?_, ?_⟩
  · rw [List.map_take, List.map_drop]
  · rw [List.length_take, List.length_drop]
    omega
theorem r_slIT {lo hi : Option Int} (h : IT H v n) (q : ∀ v' H', IT H' v' n → Fr No H H' → Q v' H') : rSlA K v lo hi H Q := by
  obtain ⟨a, xs, rfl, h1, h2⟩ := h
  refine ⟨a, _, rfl, SqT.of h1, fun _ => q _ H ⟨a, xs, rfl, h1, h2⟩ Fr.refl, fun _ p hp => ?_⟩
  obtain ⟨ys, e, hl⟩ := cut_map xs lo hi
  rw [e]
  exact q _ _ ⟨p, ys, rfl, upd_same, Nat.le_trans hl h2⟩ (Fr.new hp)
theorem r_revIT (h : IT H v n) (q : ∀ v' H', IT H' v' n → Fr No H H' → Q v' H') : RevOn K v H Q := by
  obtain ⟨a, xs, rfl, h1, h2⟩ := h
  refine ⟨a, _, rfl, SqT.of h1, fun p hp => q _ _ ⟨p, xs.reverse, rfl, ?_, ?_⟩ (Fr.new hp)⟩
  · rw [upd_same, List.map_reverse]
  · rw [List.length_reverse]; exact h2
theorem r_catIT (h : IT H v n) (g : IT H u m) (hl : n + m ≤ 1000) (q : ∀ v' H', IT H' v' (n + m) → Fr No H H' → Q v' H') : rCatA K v u H Q := by
  obtain ⟨a, xs, rfl, h1, h2⟩ := h
  obtain ⟨b, ys, rfl, g1, g2⟩ := g
  refine ⟨a, b, _, _, rfl, rfl, SqT.of h1, SqT.of g1, ?_, fun _ => q _ H ⟨b, ys, rfl, g1, by omega⟩ Fr.refl, fun _ _ => q _ H ⟨a, xs, rfl, h1, by omega⟩ Fr.refl, fun _ _ p hp => ?_⟩
  · rw [List.length_map, List.length_map]
    exact Nat.le_of_lt (small1000 (by omega))
  · exact q _ _ ⟨p, xs ++ ys, rfl, by rw [upd_same, List.map_append], by rw [List.length_append]; omega⟩ (Fr.new hp)
theorem r_tupIT {ns : List Int} {xs : List V} (e : xs = ns.map V.int) (hl : ns.length ≤ 1000) (q : ∀ v' H', IT H' v' ns.length → Fr No H H' → Q v' H') : NewT xs H Q := by
  subst e
  exact r_newT (by rw [List.length_map]; exact hl) fun p H' hp ep f => q _ H' ⟨p, ns, rfl, ep, Nat.le_refl _⟩ f
theorem IT.dd (h : IT H v n) (hn : n ≤ 1000) : ∃ xs : List Int, Td H v (.tuple (xs.map PyData.int)) ∧ xs.length ≤ n := by
  obtain ⟨a, xs, rfl, h1, h2⟩ := h
  exact ⟨xs, .tup h1 (int_td H xs), h2⟩
end
theorem td_ints_dd {H : Hp} : ∀ {r : List Nat} {vs : List V}, TdAll H vs (r.map fun x : Nat => PyData.int (x : Int)) → DdAll H vs (r.map fun x : Nat => PyData.int (x : Int))
  | [], _, h => by cases h; exact .nil
  | x :: r, _, h => by
    cases h with
    | cons h1 h2 => exact .cons (by cases h1; exact .int _) (td_ints_dd h2)
theorem td_ints_v {H : Hp} : ∀ {r : List Nat} {vs : List V}, TdAll H vs (r.map fun x : Nat => PyData.int (x : Int)) → vs = r.map nV
  | [], _, h => by cases h; rfl
  | x :: r, _, h => by
    cases h with
    | cons h1 h2 => rw [td_ints_v h2]; cases h1; rfl
theorem td_ring {H : Hp} {v : V} {r : List Nat} (h : Td H v (ringD r)) (hl : r.length ≤ 1000) : Dd H v (ringD r) := by
  cases h with
  | tup e a => exact .tup e (by rw [a.len, List.length_map]; exact hl) (td_ints_dd a)
theorem td_rings {H : Hp} : ∀ {rs : List (List Nat)} {vs : List V}, TdAll H vs (rs.map ringD) → (∀ r ∈ rs, r.length ≤ 1000) → DdAll H vs (rs.map ringD)
  | [], _, h, _ => by cases h; exact .nil
  | r :: rs, _, h, hl => by
    cases h with
    | cons h1 h2 => exact .cons (td_ring h1 (hl r List.mem_cons_self)) (td_rings h2 fun q hq => hl q (List.mem_cons_of_mem _ hq))
theorem rings_dd {H : Hp} {p : Addr} {rs : List (List Nat)} (h : LsAt H p (rs.map ringD)) (h1 : rs.length ≤ 1000) (h2 : ∀ r ∈ rs, r.length ≤ 1000) : Dd H (.ref p) (.list (rs.map ringD)) := by
  obtain ⟨vs, e, a⟩ := h
  exact .lst e (by rw [a.len, List.length_map]; exact h1) (td_rings a h2)
theorem rings_depth : ∀ rs : List (List Nat), PyData.depthAll (rs.map ringD) ≤ 1
  | [] => by simp [PyData.depthAll]
  | r :: rs => by
    have ih := rings_depth rs
    have e : (ringD r).depth = 1 := by
      unfold ringD
      simp only [PyData.depth, nats_depth]
    simp only [List.map_cons, PyData.depthAll, e]
    omega
namespace Tb
variable {T : Tb}
theorem ring_len (W : T.Wf) {a : Nat} {r : List Nat} (ha : a < T.n) (h : T.ringAt a = some r) : r.length ≤ 8 ∧ r ≠ [] := by
  unfold ringAt at h
  split at h
  · cases h
    obtain ⟨w1, w2, i, z, w3, _⟩ := way_ok W ha
    have := nodup_le w1 w2
    have := W.sz.n8
    exact ⟨by omega, by rw [w3]; simp⟩
  · cases h
theorem rings_len (W : T.Wf) : T.ringsT.length ≤ 8 ∧ ∀ r ∈ T.ringsT, r.length ≤ 8 ∧ r ≠ [] := by
  refine ⟨?_, fun r hr => ?_⟩
  · have h := List.length_filterMap_le T.ringAt (List.range T.n)
    rw [List.length_range] at h
    have := W.sz.n8
    unfold ringsT
    omega
  · obtain ⟨a, h1, h2⟩ := List.mem_filterMap.mp hr
    exact ring_len W (List.mem_range.mp h1) h2
end Tb
theorem r_rngI {ta : L2.TA} {σ : L2.St} {H : Hp} {R : It → Hp → Prop} (h : ta σ H fun vs H1 => ∃ j : Int, vs = [.int j] ∧ -(2 ^ 62) ≤ j ∧ j < 2 ^ 62 ∧ R (Itr 0 j.toNat) H1) : iRng1 ta σ H R := h
theorem ints_all : ∀ xs : List Int, PyData.canLayAll0 (xs.map PyData.int) = true ∧ PyData.depthAll (xs.map PyData.int) = 0
  | [] => by simp [PyData.canLayAll0, PyData.depthAll]
  | x :: r => by
    obtain ⟨h1, h2⟩ := ints_all r
    simp only [List.map_cons, PyData.canLayAll0, PyData.canLay0, PyData.depthAll, PyData.depth, h1, h2]
    decide
theorem ints_cmp (xs : List Int) : Cmp (.tuple (xs.map PyData.int)) := by
  obtain ⟨h1, h2⟩ := ints_all xs
  refine ⟨by simp only [PyData.canLay0]; exact h1, ?_⟩
  simp only [PyData.depth, h2]
  decide
end AL

namespace AL
open PySem PySem.Spec PyProof.Rows L2
/-! # rings: what the deeds do to them (no program in sight) -/
namespace Tb
variable {T T' : Tb} {a b c l : Nat}
/-- each of the row goes to the next one, the last to h -/
def Lk (T : Tb) : List Nat → Option Nat → Prop
  | [], _ => True
  | [x], h => T.nx x = h
  | x :: y :: r, h => T.nx x = some y ∧ Lk T (y :: r) h
theorem lk_snoc : ∀ {f : List Nat} {b : Nat} {h : Option Nat}, Lk T f (some b) → T.nx b = h → Lk T (f ++ [b]) h
  | [], b, h, _, e => e
  | [x], b, h, k, e => ⟨k, e⟩
  | x :: y :: r, b, h, k, e => ⟨k.1, lk_snoc (f := y :: r) k.2 e⟩
theorem wk_lk : ∀ (k : Nat) (f : List Nat) (h : Option Nat), Lk T f h → f ≠ [] → Lk T (wk T k f h).1 (wk T k f h).2 ∧ (wk T k f h).1.head? = f.head?
  | 0, f, h, w, _ => ⟨w, rfl⟩
  | k + 1, f, none, w, _ => ⟨w, rfl⟩
  | k + 1, f, some b, w, n => by
    by_cases hb : b ∈ f
    · have e : wk T (k + 1) f (some b) = (f, some b) := by
        show (if b ∈ f then (f, some b) else wk T k (f ++ [b]) (T.nx b)) = _
        rw [if_pos hb]
      rw [e]
      exact ⟨w, rfl⟩
    · have e : wk T (k + 1) f (some b) = wk T k (f ++ [b]) (T.nx b) := by
        show (if b ∈ f then (f, some b) else wk T k (f ++ [b]) (T.nx b)) = _
        rw [if_neg hb]
      rw [e]
      obtain ⟨h1, h2⟩ := wk_lk k (f ++ [b]) (T.nx b) (lk_snoc w rfl) (by simp)
      refine ⟨h1, h2.trans ?_⟩
      cases f with
      | nil => exact absurd rfl n
      | cons x r => rfl
/-- who goes round comes home -/
theorem wk_run : ∀ (g f : List Nat) (k : Nat), (f ++ g).Nodup → Lk T g (some a) → a ∈ f → g.length ≤ k → wk T k f (g.head?.or (some a)) = (f ++ g, some a)
  | [], f, k, _, _, ha, _ => by
    rw [List.append_nil]
    cases k with
    | zero => rfl
    | succ k =>
      show (if a ∈ f then (f, some a) else _) = _
      rw [if_pos ha]
  | b :: g, f, 0, _, _, _, hk => absurd hk (by simp)
  | b :: g, f, k + 1, nd, w, ha, hk => by
    have hb : b ∉ f := fun z => (List.nodup_append.mp nd).2.2 b z b List.mem_cons_self rfl
    have ea : f ++ b :: g = (f ++ [b]) ++ g := by simp
    show (if b ∈ f then (f, some b) else wk T k (f ++ [b]) (T.nx b)) = _
    rw [if_neg hb, ea]
    have en : T.nx b = g.head?.or (some a) ∧ Lk T g (some a) := by
      cases g with
      | nil => exact ⟨w, True.intro⟩
      | cons c r => exact ⟨w.1, w.2⟩
    rw [en.1]
    exact wk_run g (f ++ [b]) k (ea ▸ nd) en.2 (List.mem_append_left _ ha) (by simpa using hk)
/-- a ring -/
structure Ring (T : Tb) (r : List Nat) : Prop where
  nd : r.Nodup
  lt : ∀ x ∈ r, x < T.n
  ne : r ≠ []
  lk : Lk T r r.head?
  hd : r.head? = some (mx r)
theorem ringAt_iff (W : T.Wf) (ha : a < T.n) {r : List Nat} : T.ringAt a = some r ↔ T.Ring r ∧ r.head? = some a := by
  constructor
  · intro h
    unfold ringAt at h
    split at h
    · rename_i q
      have er := Option.some.inj h
      obtain ⟨w1, w2, i, z, w3, w4⟩ := way_ok W ha
      have wl := wk_lk T.n [a] (T.nx a) (show Lk T [a] (T.nx a) from rfl) (by simp)
      have wl' : Lk T (T.way a).1 (T.way a).2 ∧ (T.way a).1.head? = some a := wl
      rw [er] at w1 w2 w3 wl' q
      rw [q.1] at wl'
      refine ⟨⟨w1, w2, by rw [w3]; simp, by rw [wl'.2]; exact wl'.1, by rw [wl'.2, q.2]⟩, wl'.2⟩
    · cases h
  · rintro ⟨R, e⟩
    cases r with
    | nil => cases e
    | cons x g =>
      have ex : x = a := Option.some.inj e
      subst ex
      have en : T.nx x = g.head?.or (some x) ∧ Lk T g (some x) := by
        have := R.lk
        cases g with
        | nil => exact ⟨this, True.intro⟩
        | cons c r => exact ⟨this.1, this.2⟩
      have hl := nodup_le R.nd R.lt
      have ew : T.way x = (x :: g, some x) := by
        show wk T T.n [x] (T.nx x) = _
        rw [en.1]
        exact wk_run g [x] T.n R.nd en.2 List.mem_cons_self (by rw [List.length_cons] at hl; omega)
      unfold ringAt
      rw [ew, if_pos ⟨rfl, by have := Option.some.inj R.hd; exact this.symm⟩]
theorem mem_rings (W : T.Wf) {r : List Nat} : r ∈ T.ringsT ↔ T.Ring r := by
  unfold ringsT
  rw [List.mem_filterMap]
  constructor
  · rintro ⟨a, h1, h2⟩
    exact ((ringAt_iff W (List.mem_range.mp h1)).mp h2).1
  · intro R
    have e : r.head? = some (mx r) := R.hd
    have hm : mx r < T.n := R.lt _ (mx_mem R.ne)
    exact ⟨mx r, List.mem_range.mpr hm, (ringAt_iff W hm).mpr ⟨R, e⟩⟩
/-! ### closed ways -/
theorem lk_fwd {C : Nat → Prop} (hC : ∀ z w, C z → T.nx z = some w → C w) : ∀ {r : List Nat} {x : Nat} {h : Option Nat}, Lk T (x :: r) h → C x → (∀ y ∈ x :: r, C y) ∧ ∀ b, h = some b → C b
  | [], x, h, w, c => ⟨fun y hy => by rw [List.mem_singleton.mp hy]; exact c, fun b e => hC x b c (w.trans e)⟩
  | y :: r, x, h, w, c => by
    obtain ⟨h1, h2⟩ := lk_fwd hC (r := r) (x := y) w.2 (hC x y c w.1)
    exact ⟨fun z hz => (List.mem_cons.mp hz).elim (fun e => e ▸ c) (h1 z), h2⟩
theorem lk_mem {C : Nat → Prop} (hC : ∀ z w, C z → T.nx z = some w → C w) : ∀ {r : List Nat} {x : Nat} {h : Option Nat}, Lk T r h → x ∈ r → C x → ∀ b, h = some b → C b
  | y :: r, x, h, w, hx, c, b, e => by
    rcases List.mem_cons.mp hx with q | q
    · exact (lk_fwd hC w (q ▸ c)).2 b e
    · cases r with
      | nil => cases q
      | cons z r => exact lk_mem hC (r := z :: r) w.2 q c b e
theorem Ring.all {r : List Nat} (R : T.Ring r) {C : Nat → Prop} (hC : ∀ z w, C z → T.nx z = some w → C w) {x : Nat} (hx : x ∈ r) (c : C x) : ∀ y ∈ r, C y := by
  have h1 := lk_mem hC R.lk hx c _ R.hd
  cases r with
  | nil => cases hx
  | cons y g =>
    have e : y = mx (y :: g) := Option.some.inj R.hd
    exact (lk_fwd hC R.lk (e ▸ h1)).1
theorem lk_next : ∀ {r : List Nat} {x : Nat} {h : Option Nat}, Lk T r h → x ∈ r → (∃ y ∈ r, T.nx x = some y) ∨ T.nx x = h
  | [y], x, h, w, hx => by rw [List.mem_singleton.mp hx]; exact .inr w
  | y :: z :: r, x, h, w, hx => by
    rcases List.mem_cons.mp hx with q | q
    · exact .inl ⟨z, by simp, q ▸ w.1⟩
    · rcases lk_next (r := z :: r) w.2 q with ⟨u, hu, e⟩ | e
      · exact .inl ⟨u, List.mem_cons_of_mem _ hu, e⟩
      · exact .inr e
theorem Ring.next {r : List Nat} (R : T.Ring r) {x : Nat} (hx : x ∈ r) : ∃ y ∈ r, T.nx x = some y := by
  rcases lk_next R.lk hx with h | h
  · exact h
  · exact ⟨mx r, mx_mem R.ne, h.trans R.hd⟩
theorem Ring.waits {r : List Nat} (R : T.Ring r) {x : Nat} (hx : x ∈ r) : T.wa x ≠ none := fun z => by
  obtain ⟨y, _, e⟩ := R.next hx
  unfold nx at e
  rw [z] at e
  cases e
/-- rings with a common agent are one -/
theorem Ring.one (W : T.Wf) {r s : List Nat} (R : T.Ring r) (S : T.Ring s) {x : Nat} (hr : x ∈ r) (hs : x ∈ s) : r = s := by
  have cl : ∀ {q : List Nat}, T.Ring q → ∀ z w, z ∈ q → T.nx z = some w → w ∈ q := fun Q z w hz e => by
    obtain ⟨y, hy, e2⟩ := Q.next hz
    rw [e] at e2
    rw [Option.some.inj e2]; exact hy
  have h1 := R.all (C := (· ∈ s)) (cl S) hr hs
  have h2 := S.all (C := (· ∈ r)) (cl R) hs hr
  have e : mx r = mx s := Nat.le_antisymm (le_mx (h1 _ (mx_mem R.ne))) (le_mx (h2 _ (mx_mem S.ne)))
  have hm : mx r < T.n := R.lt _ (mx_mem R.ne)
  have e1 := (ringAt_iff W hm).mpr ⟨R, R.hd⟩
  have e2 := (ringAt_iff W hm).mpr ⟨S, by rw [e]; exact S.hd⟩
  rw [e1] at e2
  exact Option.some.inj e2
theorem lk_move : ∀ {r : List Nat} {h : Option Nat}, Lk T r h → (∀ x ∈ r, T'.nx x = T.nx x) → Lk T' r h
  | [], _, _, _ => True.intro
  | [x], h, w, e => (e x List.mem_cons_self).trans w
  | x :: y :: r, h, w, e => ⟨(e x List.mem_cons_self).trans w.1, lk_move (r := y :: r) w.2 fun z hz => e z (List.mem_cons_of_mem _ hz)⟩
theorem Ring.move {r : List Nat} (R : T.Ring r) (hn : T'.n = T.n) (e : ∀ x ∈ r, T'.nx x = T.nx x) : T'.Ring r := ⟨R.nd, fun x hx => by rw [hn]; exact R.lt x hx, R.ne, lk_move R.lk e, R.hd⟩
theorem filterMap_congr' {α β : Type} {f g : α → Option β} : ∀ {xs : List α}, (∀ a ∈ xs, f a = g a) → xs.filterMap f = xs.filterMap g
  | [], _ => rfl
  | x :: r, h => by
    rw [List.filterMap_cons, List.filterMap_cons, h x List.mem_cons_self, filterMap_congr' (xs := r) fun a ha => h a (List.mem_cons_of_mem _ ha)]
/-- rings by rings -/
theorem rings_filter (W : T.Wf) (W' : T'.Wf) (hn : T'.n = T.n) (p : List Nat → Bool) (h : ∀ r, T'.Ring r ↔ T.Ring r ∧ p r = true) : T'.ringsT = T.ringsT.filter p := by
  have key : ∀ a, a < T.n → T'.ringAt a = (T.ringAt a).filter p := fun a ha => by
    have ha' : a < T'.n := by rw [hn]; exact ha
    apply Option.ext
    intro r
    rw [ringAt_iff W' ha', h r, Option.filter_eq_some_iff, ringAt_iff W ha]
    constructor
    · rintro ⟨⟨h1, h2⟩, h3⟩; exact ⟨⟨h1, h3⟩, h2⟩
    · rintro ⟨⟨h1, h3⟩, h2⟩; exact ⟨⟨h1, h2⟩, h3⟩
  unfold ringsT
  rw [hn, List.filter_filterMap]
  exact filterMap_congr' fun a ha => key a (List.mem_range.mp ha)
theorem rings_same (W : T.Wf) (W' : T'.Wf) (hn : T'.n = T.n) (h : ∀ r, T'.Ring r ↔ T.Ring r) : T'.ringsT = T.ringsT := by
  rw [rings_filter W W' hn (fun _ => true) (fun r => by rw [h r]; simp), List.filter_eq_self.mpr fun _ _ => rfl]
/-! ### no agent in two -/
theorem apart_of : ∀ {xs : List Nat} {f : Nat → Option (List Nat)} {R : List Nat → List Nat → Prop}, xs.Nodup → (∀ a b r s, a ∈ xs → b ∈ xs → a ≠ b → f a = some r → f b = some s → R r s) → (xs.filterMap f).Pairwise R
  | [], _, _, _, _ => List.Pairwise.nil
  | x :: xs, f, R, nd, h => by
    obtain ⟨n1, n2⟩ := List.nodup_cons.mp nd
    have ih := apart_of (f := f) (R := R) n2 fun a b r s ha hb => h a b r s (List.mem_cons_of_mem _ ha) (List.mem_cons_of_mem _ hb)
    cases e : f x with
    | none => rw [List.filterMap_cons, e]; exact ih
    | some r =>
      rw [List.filterMap_cons, e]
      refine List.pairwise_cons.mpr ⟨fun s hs => ?_, ih⟩
      obtain ⟨b, hb, eb⟩ := List.mem_filterMap.mp hs
      exact h x b r s List.mem_cons_self (List.mem_cons_of_mem _ hb) (fun z => n1 (z ▸ hb)) e eb
theorem rings_apart (W : T.Wf) : T.ringsT.Pairwise fun r s => ∀ x ∈ r, x ∉ s := by
  unfold ringsT
  refine apart_of List.nodup_range fun a b r s ha hb hab hr hs x hx hy => ?_
  obtain ⟨R, e1⟩ := (ringAt_iff W (List.mem_range.mp ha)).mp hr
  obtain ⟨S, e2⟩ := (ringAt_iff W (List.mem_range.mp hb)).mp hs
  have e := Ring.one W R S hx hy
  rw [e, e2] at e1
  exact hab (Option.some.inj e1).symm
theorem nd_flat : ∀ {xs : List (List Nat)}, (∀ r ∈ xs, r.Nodup) → xs.Pairwise (fun r s => ∀ x ∈ r, x ∉ s) → xs.flatten.Nodup
  | [], _, _ => by simp
  | r :: xs, h, p => by
    obtain ⟨p1, p2⟩ := List.pairwise_cons.mp p
    rw [List.flatten_cons, List.nodup_append]
    refine ⟨h r List.mem_cons_self, nd_flat (fun s hs => h s (List.mem_cons_of_mem _ hs)) p2, fun x hx y hy z => ?_⟩
    obtain ⟨s, hs, hys⟩ := List.mem_flatten.mp hy
    exact p1 s hs x hx (z ▸ hys)
theorem rings_flat (W : T.Wf) : T.ringsT.flatten.Nodup := nd_flat (fun r hr => ((mem_rings W).mp hr).nd) (rings_apart W)
theorem flat_waits (W : T.Wf) {x : Nat} (h : x ∈ T.ringsT.flatten) : x < T.n ∧ T.wa x ≠ none := by
  obtain ⟨r, hr, hx⟩ := List.mem_flatten.mp h
  have R := (mem_rings W).mp hr
  exact ⟨R.lt x hx, R.waits hx⟩
theorem rflat_len (W : T.Wf) : T.ringsT.flatten.length ≤ 8 := Nat.le_trans (nodup_le (rings_flat W) fun x hx => (flat_waits W hx).1) W.sz.n8
/-! ### the deeds -/
theorem nx_wa {x k : Nat} (h : T.wa x = some k) : T.nx x = T.ow k := by unfold nx; rw [h]
theorem nx_non {x : Nat} (h : T.wa x = none) : T.nx x = none := by unfold nx; rw [h]
theorem nx_some {x y : Nat} (h : T.nx x = some y) : ∃ k, T.wa x = some k ∧ T.ow k = some y := by
  cases e : T.wa x with
  | none => rw [nx_non e] at h; cases h
  | some k => rw [nx_wa e] at h; exact ⟨k, rfl, h⟩
/-- a lock of one that waits for none is given -/
theorem ring_pass (W : T.Wf) (hl : l < T.m) (ho : T.ow l = some a) (hw : T.wa a = none) (r : List Nat) : (T.pass l).Ring r ↔ T.Ring r := by
  have notA : ∀ {r : List Nat}, T.Ring r → a ∉ r := fun R z => R.waits z hw
  have nxT : ∀ {x : Nat}, T.wa x ≠ some l → (T.pass l).nx x = T.nx x := fun {x} hx => by
    have e : (T.pass l).wa x = T.wa x := by
      rw [pass_wa W, if_neg]
      intro z
      exact hx (W.lw l x (heir_mem z)).2
    unfold nx
    rw [e]
    cases q : T.wa x with
    | none => rfl
    | some k =>
      show (T.pass l).ow k = T.ow k
      rw [pass_ow hl, if_neg]
      intro z
      rw [← z] at q
      exact hx q
  constructor
  · intro R
    refine R.move pass_n.symm fun x hx => ?_
    refine (nxT fun hxl => ?_).symm
    obtain ⟨y, hy, e⟩ := R.next hx
    obtain ⟨k, e1, e2⟩ := nx_some e
    rw [pass_wa W] at e1
    split at e1
    · cases e1
    rename_i q
    rw [hxl] at e1
    have ek : l = k := Option.some.inj e1
    rw [← ek, pass_ow hl, if_pos rfl] at e2
    refine R.waits hy ?_
    rw [pass_wa W, if_pos e2]
  · intro R
    refine R.move pass_n fun x hx => nxT fun hxl => ?_
    obtain ⟨y, hy, e⟩ := R.next hx
    rw [nx_wa hxl, ho] at e
    have ey : a = y := Option.some.inj e
    exact notA R (ey ▸ hy)
theorem ring_passAll : ∀ (ls : List Nat) {T : Tb}, T.Wf → ls.Nodup → (∀ l ∈ ls, l < T.m ∧ T.ow l = some a) → T.wa a = none → ∀ r, (passAll ls T).2.Ring r ↔ T.Ring r
  | [], T, W, _, _, _, r => Iff.rfl
  | k :: ls, T, W, nd, h, hw, r => by
    obtain ⟨n1, n2⟩ := List.nodup_cons.mp nd
    obtain ⟨h1, h2⟩ := h k List.mem_cons_self
    refine (ring_passAll ls (W.pass h1) n2 (fun l hl => ?_) ?_ r).trans (ring_pass W h1 h2 hw r)
    · obtain ⟨q1, q2⟩ := h l (List.mem_cons_of_mem _ hl)
      refine ⟨by rw [pass_m]; exact q1, ?_⟩
      rw [pass_ow h1, if_neg (fun z : k = l => n1 (z ▸ hl))]
      exact q2
    · rw [pass_wa W]
      split
      · rfl
      · exact hw
theorem ring_unwait (W : T.Wf) (ha : a < T.n) (r : List Nat) : (T.unwait a).Ring r ↔ T.Ring r ∧ a ∉ r := by
  have nxT : ∀ {x : Nat}, x ≠ a → (T.unwait a).nx x = T.nx x := fun {x} hx => by
    unfold nx
    rw [unwait_wa ha, if_neg (fun z => hx z.symm)]
    cases T.wa x with
    | none => rfl
    | some k => exact unwait_ow
  constructor
  · intro R
    have na : a ∉ r := fun z => R.waits z (by rw [unwait_wa ha, if_pos rfl])
    exact ⟨R.move unwait_n.symm fun x hx => (nxT fun z => na (z ▸ hx)).symm, na⟩
  · rintro ⟨R, na⟩
    exact R.move unwait_n fun x hx => nxT fun z => na (z ▸ hx)
theorem ring_leave (W : T.Wf) (ha : a < T.n) (r : List Nat) : (T.leave a).2.Ring r ↔ T.Ring r ∧ a ∉ r := by
  unfold leave
  refine (ring_passAll (a := a) _ (W.unwait ha) held_nd (fun l hl => ⟨held_lt hl, mem_held.mp hl⟩) ?_ r).trans (ring_unwait W ha r)
  rw [unwait_wa ha, if_pos rfl]
/-- a leaving makes just its own ring none -/
theorem rings_leave (W : T.Wf) (ha : a < T.n) : (T.leave a).2.ringsT = T.ringsT.filter fun r => decide (a ∉ r) :=
  rings_filter W (W.leave ha) leave_n _ fun r => by rw [ring_leave W ha r, decide_eq_true_eq]
theorem rings_give (W : T.Wf) {x y : Int} : (T.giveR x y).2.ringsT = T.ringsT := by
  cases h : T.fault x y with
  | some w => rw [giveR_err h]
  | none =>
    obtain ⟨a, l, rfl, rfl, ha, hl⟩ := fault_none h
    rw [giveR_nat ha hl]
    split
    · rfl
    · rename_i q1
      split
      · rfl
      · rename_i q2
        exact rings_same W (W.pass hl) pass_n (ring_pass W hl (Decidable.not_not.mp q2) (Decidable.not_not.mp q1))
theorem ring_take (W : T.Wf) (ha : a < T.n) (hf : T.ow l = none) (r : List Nat) : (T.take a l).Ring r ↔ T.Ring r := by
  have e : ∀ x, (T.take a l).nx x = T.nx x := fun x => by
    unfold nx
    rw [take_wa]
    cases q : T.wa x with
    | none => rfl
    | some k =>
      show (T.take a l).ow k = T.ow k
      rw [take_ow, if_neg]
      rintro ⟨z, _⟩
      rw [← z] at q
      exact W.lo l (List.ne_nil_of_mem (W.wl x l q).2) hf
  exact ⟨fun R => R.move rfl fun x _ => (e x).symm, fun R => R.move rfl fun x _ => e x⟩
theorem nx_wait (ha : a < T.n) {x : Nat} (hx : x ≠ a) : (T.wait a l).nx x = T.nx x := by
  unfold nx
  rw [wait_wa, if_neg (fun z => hx z.1.symm)]
  cases T.wa x <;> rfl
theorem ring_wait (W : T.Wf) (ha : a < T.n) (hw : T.wa a = none) (r : List Nat) : T.Ring r ↔ (T.wait a l).Ring r ∧ a ∉ r := by
  constructor
  · intro R
    have na : a ∉ r := fun z => R.waits z hw
    exact ⟨R.move wait_n fun x hx => nx_wait ha fun z => na (z ▸ hx), na⟩
  · rintro ⟨R, na⟩
    exact R.move wait_n.symm fun x hx => (nx_wait ha fun z => na (z ▸ hx)).symm
/-- an asking makes no ring none, and one at the most, of which the asker is -/
theorem rings_ask (W : T.Wf) {x : Nat} {y : Int} : (∀ r ∈ T.ringsT, r ∈ (T.askR x y).2.ringsT) ∧ (∀ r ∈ (T.askR x y).2.ringsT, r ∉ T.ringsT → x ∈ r) := by
  have W' := W.askR (x := x) (y := y)
  have key : (∀ r, T.Ring r → (T.askR x y).2.Ring r) ∧ (∀ r, (T.askR x y).2.Ring r → ¬ T.Ring r → x ∈ r) := by
    clear W'
    cases h : T.fault x y with
    | some w => rw [askR_err h]; exact ⟨fun r R => R, fun r R N => absurd R N⟩
    | none =>
      obtain ⟨a, l, ea, rfl, ha, hl⟩ := fault_none h
      have ea' : x = a := by omega
      subst ea'
      rw [askR_nat ha hl]
      split
      · exact ⟨fun r R => R, fun r R N => absurd R N⟩
      · rename_i q1
        split
        · exact ⟨fun r R => R, fun r R N => absurd R N⟩
        · split
          · rename_i q3
            exact ⟨fun r R => (ring_take W ha q3 r).mpr R, fun r R N => absurd ((ring_take W ha q3 r).mp R) N⟩
          · have k := ring_wait (l := l) W ha (Decidable.not_not.mp q1)
            refine ⟨fun r R => ((k r).mp R).1, fun r R N => ?_⟩
            by_cases z : x ∈ r
            · exact z
            · exact absurd ((k r).mpr ⟨R, z⟩) N
  exact ⟨fun r hr => (mem_rings W').mpr (key.1 r ((mem_rings W).mp hr)), fun r hr hn => key.2 r ((mem_rings W').mp hr) fun z => hn ((mem_rings W).mpr z)⟩
/-- of rings with a common agent there is one -/
theorem rings_le_one (W : T.Wf) {p : List Nat → Bool} (h : ∀ r ∈ T.ringsT, p r = true → a ∈ r) : (T.ringsT.filter p).length ≤ 1 := by
  have hp := (rings_apart W).filter p
  cases e : T.ringsT.filter p with
  | nil => simp
  | cons r q =>
    cases q with
    | nil => simp
    | cons s q =>
      rw [e] at hp
      have m : ∀ t ∈ r :: s :: q, a ∈ t := fun t ht => by
        rw [← e] at ht
        obtain ⟨h1, h2⟩ := List.mem_filter.mp ht
        exact h t h1 h2
      exact absurd (m s (by simp)) ((List.pairwise_cons.mp hp).1 s (by simp) a (m r (by simp)))
end Tb
end AL

namespace AL
open PySem PySem.Spec PyProof.Rows L2
/-! # min of a list of pairs of ints -/
section
variable {prog : Program} {w : World} {A : Around} {R : Result → Shared → Prop} {I S : Addr} {fp wr : List Addr} {n : Nat} {P : Nat → Value → Prop} {St : Nat → Heap → Prop} {bt : Nat → Nat → Bool} {G : Heap → Prop}
/-- what is compared may lean on what stands -/
def CmpT (prog : Program) (w : World) (A : Around) (G : Heap → Prop) (P : Nat → Value → Prop) (bt : Nat → Nat → Bool) : Prop :=
  ∀ (i j : Nat) (x y : Value) (s : Shared) (Q E : Value → Shared → Prop), G s.heap → P i x → P j y → Q (.bool (bt i j)) s → wpAny (model prog w) A (richCompare .Lt x y) Q E s
def Stays (wr : List Addr) (S : Addr) (G : Heap → Prop) : Prop := ∀ g g' : Heap, (∀ b o, b ∉ wr → b ≠ S → g.get? b = some o → g'.get? b = some o) → G g → G g'
def boxO (x : List Value) (c : Nat) : Obj := { cls := .type "list", dict := none, data := .seq x.toArray c, slots := #[] }
theorem minT_loop (W : Walks prog w A.in1 I fp wr n P St) (hc : CmpT prog w A.in1 G P bt) (hG : Stays wr S G) (hS : S ∉ fp) : ∀ (k j : Nat) (s : Shared) (v : Value) (c : Nat), n = j + 1 + k → St (j + 1) s.heap → G s.heap → P (argBest bt j) v →
    s.heap.get? S = some (boxO [v, v] c) → (∀ z g tk, P (argBest bt (n - 1)) z → (∀ b o, b ∉ wr → b ≠ S → s.heap.get? b = some o → g.get? b = some o) → R (.ok (.ret z)) { s with heap := g, toks := tk }) →
    codeAny (model prog w) A (.builtin "min.loop" ⟨[.ref I, .none, .ref S], []⟩) R s := by
  have nS : S ∉ wr := fun z => hS (W.sub S z)
  have nm : (toString "min" ++ toString ".loop" : String) = "min.loop" := by decide
  intro k
  induction k with
  | zero =>
    intro j s v c hn hst hg hv hb hR
    refine (codeAny_builtin F.entry_min_loop ?_)
    rw [Around.under_plainId F.plain_min_loop]
    refine (wpAny_bind (wpAny_seqItems (o := boxO _ c) hb rfl ?_))
    show wpAny (model prog w) A.in1 (tryCatch (pyNext (Value.ref I)) _ >>= _) _ _ s
    refine (wpAny_bind (wpAny_tryCatch (W.done _ _ _ (show St n s.heap from by rw [hn]; exact hst) fun g tk hk => ?_)))
    show wpAny (model prog w) A.in1 (updateSeq S (fun _ => #[]) >>= _) _ _ _
    refine (wpAny_bind (wpAny_updateSeq (hk S _ nS hb) rfl (wpAny_bind (wpAny_letGo (wpAny_pure ?_)))))
    exact hR v _ tk (by rw [show n - 1 = j from by omega]; exact hv) fun b o h1 h2 e => (Heap.get?_update_other _ _ fun z => h2 z.symm).trans (hk b o h1 e)
  | succ k ih =>
    intro j s v c hn hst hg hv hb hR
    refine (codeAny_builtin F.entry_min_loop ?_)
    rw [Around.under_plainId F.plain_min_loop]
    refine (wpAny_bind (wpAny_seqItems (o := boxO _ c) hb rfl ?_))
    show wpAny (model prog w) A.in1 (tryCatch (pyNext (Value.ref I)) _ >>= _) _ _ s
    refine (wpAny_bind (wpAny_tryCatch (W.item (j + 1) _ _ _ (by omega) hst fun u g tk hu hst2 hk => ?_)))
    have hb2 := hk S _ nS hb
    have hg2 : G g := hG _ _ (fun b o h1 _ e => hk b o h1 e) hg
    show wpAny (model prog w) A.in1 (tryCatch (holding [u, u] (richCompare .Lt u v >>= _)) _ >>= _) _ _ _
    refine (wpAny_bind (wpAny_tryCatch (wpAny_holding (wpAny_bind (hc (j + 1) (argBest bt j) u v _ _ _ hg2 hu hv ?_)))))
    refine (wpAny_bind (wpAny_holding (wpAny_truthy_bool ?_)))
    refine (wpAny_bind (wpAny_letGo (wpAny_pure ?_)))
    have eb : argBest bt (j + 1) = if bt (j + 1) (argBest bt j) = true then j + 1 else argBest bt j := rfl
    cases q : bt (j + 1) (argBest bt j) with
    | true =>
      rw [q, if_pos rfl] at eb
      simp only [if_true]
      refine (wpAny_bind (wpAny_updateSeq hb2 rfl (wpAny_bind (wpAny_letGo ?_))))
      rw [nm]
      have old : ∀ (f : Obj → Obj) b o, b ≠ S → g.get? b = some o → (g.update S f).get? b = some o := fun f b o h2 e => (Heap.get?_update_other _ _ fun z => h2 z.symm).trans e
      refine wpAny_pure ⟨plainId_quiet F.plain_min_loop _, ih (j + 1) _ u _ (by omega) (W.frame _ _ _ hst2 fun b hbf o e => old _ b o (fun z => hS (z ▸ hbf)) e) (hG _ _ (fun b o _ h2 e => old _ b o h2 e) hg2) (by rw [eb]; exact hu) (Heap.get?_update_self _ hb2 rfl) fun z g' tk' hz hk' => ?_⟩
      exact hR z g' tk' hz fun b o h1 h2 e => hk' b o h1 h2 (old _ b o h2 (hk b o h1 e))
    | false =>
      rw [q, if_neg Bool.false_ne_true] at eb
      simp only [Bool.false_eq_true, if_false]
      refine (wpAny_bind (wpAny_letGo ?_))
      rw [nm]
      refine wpAny_pure ⟨plainId_quiet F.plain_min_loop _, ih (j + 1) _ v c (by omega) hst2 hg2 (by rw [eb]; exact hv) hb2 fun z g' tk' hz hk' => ?_⟩
      exact hR z g' tk' hz fun b o h1 h2 e => hk' b o h1 h2 (hk b o h1 e)
theorem minT_first (W : Walks prog w A.in1 I fp wr n P St) (hc : CmpT prog w A.in1 G P bt) (hG : Stays wr S G) (hS : S ∉ fp) (hn : 0 < n) {s : Shared} {c : Nat} (hst : St 0 s.heap) (hg : G s.heap) (hb : s.heap.get? S = some (boxO [] c))
    (hR : ∀ z g tk, P (argBest bt (n - 1)) z → (∀ b o, b ∉ wr → b ≠ S → s.heap.get? b = some o → g.get? b = some o) → R (.ok (.ret z)) { s with heap := g, toks := tk }) :
    codeAny (model prog w) A (.builtin "min.loop" ⟨[.ref I, .none, .ref S], []⟩) R s := by
  have nS : S ∉ wr := fun z => hS (W.sub S z)
  have nm : (toString "min" ++ toString ".loop" : String) = "min.loop" := by decide
  refine (codeAny_builtin F.entry_min_loop ?_)
  rw [Around.under_plainId F.plain_min_loop]
  refine (wpAny_bind (wpAny_seqItems (o := boxO _ c) hb rfl ?_))
  show wpAny (model prog w) A.in1 (tryCatch (pyNext (Value.ref I)) _ >>= _) _ _ s
  refine (wpAny_bind (wpAny_tryCatch (W.item 0 _ _ _ hn hst fun u g tk hu hst2 hk => ?_)))
  have hb2 := hk S _ nS hb
  have hg2 : G g := hG _ _ (fun b o h1 _ e => hk b o h1 e) hg
  show wpAny (model prog w) A.in1 (updateSeq S (fun _ => #[u, u]) >>= _) _ _ _
  refine (wpAny_bind (wpAny_updateSeq hb2 rfl ?_))
  rw [nm]
  have old : ∀ (f : Obj → Obj) b o, b ≠ S → g.get? b = some o → (g.update S f).get? b = some o := fun f b o h2 e => (Heap.get?_update_other _ _ fun z => h2 z.symm).trans e
  refine wpAny_pure ⟨plainId_quiet F.plain_min_loop _, minT_loop W hc hG hS (n - 1) 0 _ u _ (by omega) (W.frame _ _ _ hst2 fun b hbf o e => old _ b o (fun z => hS (z ▸ hbf)) e) (hG _ _ (fun b o _ h2 e => old _ b o h2 e) hg2) hu (Heap.get?_update_self _ hb2 rfl) fun z g' tk' hz hk' => ?_⟩
  exact hR z g' tk' hz fun b o h1 h2 e => hk' b o h1 h2 (old _ b o h2 (hk b o h1 e))
end
section
variable {prog : Program} {w : World} {A : Around} {E : Value → Shared → Prop} {s : Shared}
theorem call_minT {x : Value} {Q : Value → Shared → Prop}
    (h : wpAny (model prog w) A.in1 (pyIter x) (fun it s2 => ∃ I fp wr n P St bt, ∃ G : Heap → Prop, it = .ref I ∧ Walks prog w A.in1 I fp wr n P St ∧ St 0 s2.heap ∧ (∀ b ∈ fp, b < s2.heap.objs.size) ∧ 0 < n ∧ CmpT prog w A.in1 G P bt ∧ G s2.heap ∧ Stays wr s2.heap.objs.size G ∧
      ∀ v g tk, P (argBest bt (n - 1)) v → (∀ b o, b ∉ wr → s2.heap.get? b = some o → g.get? b = some o) → Q v { s2 with heap := g, toks := tk }) E s) :
    wpAny (model prog w) A (call (.builtin "min") [x]) Q E s := by
  have nm : (toString "min" ++ toString ".loop" : String) = "min.loop" := by decide
  refine call_function_tree F.kind_min F.plain_min F.entry_min (F.args_min1 _) ((?_))
  show wpAny (model prog w) A.in1 (Builtin.Builtins.bindParams "min" ["key", "default"] 0 ⟨[], []⟩ >>= _) _ _ s
  refine wpAny_bind (wpAny_of_eq (show Builtin.Builtins.bindParams "min" ["key", "default"] 0 ⟨[], []⟩ = pure [none, none] from rfl) ((?_)))
  refine (wpAny_bind (wpAny_pure ?_))
  refine (wpAny_bind (wpAny_mono h (fun it s2 h2 => ?_) fun _ _ z => z))
  obtain ⟨I, fp, wr, n, P, St, bt, G, rfl, W, hst, hfp, hn, hc, hg, hG, hQ⟩ := h2
  refine (wpAny_bind (wpAny_newObj_type ?_))
  have hS : s2.heap.objs.size ∉ fp := fun z => Nat.lt_irrefl _ (hfp _ z)
  rw [nm]
  have old : ∀ (o' : Obj) b o, s2.heap.get? b = some o → (s2.heap.push o').get? b = some o := fun o' b o e => Heap.get?_push_of_some _ e
  refine wpAny_pure ⟨plainId_quiet F.plain_min_loop _, minT_first W hc hG hS hn (W.frame _ _ _ hst fun b _ o e => old _ b o e) (hG _ _ (fun b o _ _ e => old _ b o e) hg) (Heap.get?_push_size _ rfl) fun v g tk hv hk => ?_⟩
  exact hQ v g tk hv fun b o h1 e => hk b o h1 (Nat.ne_of_lt (Heap.lt_size e)) (old _ b o e)
end
/-! ### the rule -/
def ltP (p q : Int × Int) : Bool := if p.1 = q.1 then decide (p.2 < q.2) else decide (p.1 < q.1)
def leP (p q : Int × Int) : Prop := p.1 < q.1 ∨ (p.1 = q.1 ∧ p.2 ≤ q.2)
theorem leP_refl (p : Int × Int) : leP p p := .inr ⟨rfl, Int.le_refl _⟩
theorem leP_trans {p q r : Int × Int} (h : leP p q) (g : leP q r) : leP p r := by
  unfold leP at *
  omega
theorem ltP_true {p q : Int × Int} (h : ltP p q = true) : leP p q := by
  unfold ltP at h
  unfold leP
  split at h
  · have := of_decide_eq_true h; omega
  · have := of_decide_eq_true h; omega
theorem ltP_false {p q : Int × Int} (h : ltP p q = false) : leP q p := by
  unfold ltP at h
  unfold leP
  split at h
  · have := of_decide_eq_false h; omega
  · have := of_decide_eq_false h; omega
theorem best_le (f : Nat → Int × Int) : ∀ k, argBest (fun i j => ltP (f i) (f j)) k ≤ k ∧ ∀ i, i ≤ k → leP (f (argBest (fun i j => ltP (f i) (f j)) k)) (f i)
  | 0 => ⟨Nat.le_refl _, fun i hi => by rw [Nat.le_zero.mp hi]; exact leP_refl _⟩
  | k + 1 => by
    obtain ⟨h1, h2⟩ := best_le f k
    have e : argBest (fun i j => ltP (f i) (f j)) (k + 1) = if ltP (f (k + 1)) (f (argBest (fun i j => ltP (f i) (f j)) k)) = true then k + 1 else argBest (fun i j => ltP (f i) (f j)) k := rfl
    rw [e]
    split
    · rename_i q
      refine ⟨Nat.le_refl _, fun i hi => ?_⟩
      by_cases z : i = k + 1
      · rw [z]; exact leP_refl _
      · exact leP_trans (ltP_true q) (h2 i (by omega))
    · rename_i q
      refine ⟨Nat.le_succ_of_le h1, fun i hi => ?_⟩
      by_cases z : i = k + 1
      · rw [z]; exact ltP_false (by simpa using q)
      · exact h2 i (by omega)
/-- what min of a list of pairs is to be told -/
def rMinP (K : PySem.W.Frag) : List V → Hp → VK → Prop := fun vs H Q => ∃ (a : Addr) (xs : List V) (ps : List (Int × Int)), vs = [.ref a] ∧ SqL K H a xs ∧ xs.length = ps.length ∧ ps ≠ [] ∧
  (∀ (i : Nat) x p, xs[i]? = some x → ps[i]? = some p → ∃ t, x = .ref t ∧ SqT K H t [.int p.1, .int p.2]) ∧ ∀ (i : Nat) x p, xs[i]? = some x → ps[i]? = some p → (∀ q ∈ ps, leP p q) → Q x H
theorem cr_minP {X : Cx} (hc : X.calm = true) (hu : X.A.units + 1 < cLine) : CallR X (.builtin "min") (rMinP X.K) := by
  intro pins s σ H vs us Q J r h
  obtain ⟨a, xs, ps, rfl, hs, hl, hne, hp, q⟩ := h
  obtain ⟨its, rv, hls, _⟩ := J.list hs
  rw [Vals.ref1 r]
  have el := rv.length
  have hpos : 0 < ps.length := List.length_pos_iff.mpr hne
  let f : Nat → Int × Int := fun i => ps.getD i (0, 0)
  have old : ∀ {g : Heap} {I : Addr}, I = s.heap.objs.size → (∀ b o, b ∉ [I] → (s.heap.push { cls := .type "list_iterator", data := .fields #[.ref a, .int 0 0] }).get? b = some o → g.get? b = some o) → ∀ b o, s.heap.get? b = some o → g.get? b = some o := fun {g I} eI hk b o e => by
    refine hk b o (fun z => ?_) (Heap.get?_push_of_some _ e)
    have := Heap.lt_size e
    rw [List.mem_singleton.mp z, eI] at this
    exact Nat.lt_irrefl _ this
  have hlt : a < s.heap.objs.size := by obtain ⟨_, e, _⟩ := hls.isList; exact Heap.lt_size e
  have hh : X.A.handled = none := J.ok.hd hc
  refine call_minT (wpAny_pyIter_list hls.isList ?_)
  refine ⟨s.heap.objs.size, _, _, _, _, _, fun i j => ltP (f i) (f j), fun g => ∀ b o, s.heap.get? b = some o → g.get? b = some o, rfl, Walks.list (A := X.A.in1) hh _ a (Nat.ne_of_lt hlt) its.toArray, ⟨⟨_, Heap.get?_push_size _ rfl, rfl, rfl⟩, hls.isList.push _⟩, fun b hb => ?_, ?_, ?_, fun b o e => Heap.get?_push_of_some _ e, ?_, fun v g tk hv hk => ?_⟩
  · show b < (s.heap.push _).objs.size
    rw [Heap.size_push]
    simp only [List.mem_cons, List.not_mem_nil, or_false] at hb
    rcases hb with e | e
    · rw [e]; exact Nat.lt_succ_self _
    · rw [e]; exact Nat.lt_succ_of_lt hlt
  · rw [List.size_toArray]; omega
  · intro i j x y s2 Q2 E2 hg hx hy hq
    have at_ : ∀ (i : Nat) (x : Value), its.toArray[i]? = some x → ∃ t its2, x = .ref t ∧ s2.heap.IsTuple t (List.toArray its2) ∧ Vals [.int (f i).1, .int (f i).2] its2 ∧ i < ps.length := fun i x hx => by
      rw [List.getElem?_toArray] at hx
      have hi : i < its.length := (List.getElem?_eq_some_iff.mp hx).1
      have hi2 : i < xs.length := by omega
      have hi3 : i < ps.length := by omega
      obtain ⟨t, et, ht⟩ := hp i xs[i] (f i) (List.getElem?_eq_getElem hi2) (getD_some hi3)
      obtain ⟨u, eu, ru⟩ := rv.get (List.getElem?_eq_getElem hi2)
      rw [hx] at eu
      cases eu
      rw [et] at ru
      cases ru
      obtain ⟨its2, r2, ⟨o, e1, e2⟩, _⟩ := J.tuple ht
      exact ⟨t, its2, rfl, ⟨o, hg _ _ e1, e2⟩, r2, hi3⟩
    obtain ⟨t1, i1, rfl, k1, r1, l1⟩ := at_ i x hx
    obtain ⟨t2, i2, rfl, k2, r2, l2⟩ := at_ j y hy
    obtain ⟨m1, m2, rfl⟩ := Vals.int2 r1
    obtain ⟨m3, m4, rfl⟩ := Vals.int2 r2
    have R := Ob.RcOp.tuples_lt (A := X.A.in1) (s := s2) (e := fun z => if z = 0 then (f i).1 == (f j).1 else (f i).2 == (f j).2) (r := fun z => if z = 0 then decide ((f i).1 < (f j).1) else decide ((f i).2 < (f j).2)) k1 k2 hu
      (fun z h1 h2 => by
        match z, h1, h2 with
        | 0, _, _ => exact SeqAt.EqAt.int_int _ _ _ _
        | 1, _, _ => exact SeqAt.EqAt.int_int _ _ _ _
        | z + 2, h1, _ => exact absurd h1 (by show ¬ z + 2 < 2; omega))
      (fun z h1 h2 _ => by
        match z, h1, h2 with
        | 0, _, _ => exact Ob.RcOp.lt_int _ _ _ _
        | 1, _, _ => exact Ob.RcOp.lt_int _ _ _ _
        | z + 2, h1, _ => exact absurd h1 (by show ¬ z + 2 < 2; omega))
    refine R _ _ E2 Q2 ?_
    have el : Ob.lexAt (fun z => if z = 0 then (f i).1 == (f j).1 else (f i).2 == (f j).2) (fun z => if z = 0 then decide ((f i).1 < (f j).1) else decide ((f i).2 < (f j).2)) (decide (2 < 2)) 0 (min 2 2) = ltP (f i) (f j) := by
      show Ob.lexAt _ _ _ 0 2 = _
      unfold ltP
      simp only [Ob.lexAt]
      by_cases z : (f i).1 = (f j).1
      · by_cases z2 : (f i).2 = (f j).2 <;> simp [z, z2]
      · simp [z]
    exact el.symm ▸ hq
  · intro g g' hk hg b o e
    have hb := Heap.lt_size e
    refine hk b o (fun z => ?_) (fun z => ?_) (hg b o e)
    · rw [List.mem_singleton.mp z] at hb
      exact Nat.lt_irrefl _ hb
    · have : b = (s.heap.push { cls := Value.type "list_iterator", data := .fields #[.ref a, .int 0 0] }).objs.size := z
      rw [Heap.size_push] at this
      rw [this] at hb
      exact absurd hb (Nat.not_lt_of_le (Nat.le_succ _))
  · have hk' := old rfl hk
    obtain ⟨h1, h2⟩ := best_le f (its.toArray.size - 1)
    have hlt2 : argBest (fun i j => ltP (f i) (f j)) (its.toArray.size - 1) < ps.length := by
      rw [List.size_toArray] at h1 ⊢
      omega
    have hx2 : argBest (fun i j => ltP (f i) (f j)) (its.toArray.size - 1) < xs.length := by omega
    obtain ⟨u, eu, ru⟩ := rv.get (List.getElem?_eq_getElem hx2)
    rw [List.getElem?_toArray, eu] at hv
    cases hv
    refine ⟨_, H, J.kept hk', ru, q _ _ _ (List.getElem?_eq_getElem hx2) (getD_some (d := (0, 0)) hlt2) fun p hpm => ?_⟩
    obtain ⟨i, hi, rfl⟩ := List.mem_iff_getElem.mp hpm
    have := h2 i (by rw [List.size_toArray]; omega)
    have e : f i = ps[i] := by
      show ps.getD i (0, 0) = _
      rw [List.getD_eq_getElem?_getD, List.getElem?_eq_getElem hi]
      rfl
    rw [e] at this
    exact this
theorem k_minP {X : Cx} {K : PySem.W.Frag} (hK : X.K = K) (hc : X.calm = true) (hu : X.A.units + 64 < cLine) : CallR X (.builtin "min") (rMinP K) := hK ▸ cr_minP hc (by omega)
end AL

namespace AL
open PySem PySem.Spec PyProof.Rows L2
/-! # l.extend(t) of a tuple -/
theorem ext_tup (l : Addr) (us : Array Value) (n : Nat) (b : Addr) (ws : Array Value) (k : Nat) (dd : Option Addr) (sl : Array (Option Value)) (h0 : ¬(!us.isEmpty && Builtin.List.listTooLong (us.size + ws.size)) = true) (h1 : us.size ≤ sizeLine) (h2 : us.size + ws.size ≤ sizeLine + 1) :
    Meets (Builtin.«list.extend» ⟨[.ref l, .ref b], []⟩) (fun _ R s => s.heap.get? l = some { cls := .type "list", dict := none, data := .seq us n, slots := #[] } ∧ s.heap.get? b = some { cls := .type "tuple", dict := dd, data := .seq ws k, slots := sl } ∧
      R (.ok (.ret Value.none)) { s with heap := s.heap.update l (Obj.mapSeq fun x => x ++ ws), toks := s.toks }) :=
  .of_wp fun prog w A R s h => by
    obtain ⟨hp, g, d, tk, os⟩ := s
    obtain ⟨hl, hb, h⟩ := h
    have f1 := AutoSeq1.idx_int
    have f2 := AutoSeq1.sub_tuple_tuple
    have f3 := AutoSeq1.sub_list_list
    have f4 := AutoSeq1.sub_tuple_list
    have f5 := AutoSeq1.sub_list_tuple
    have hz : (us ++ ws).size ≤ sizeLine + 1 := by
      rw [Array.size_append]
      exact h2
    wp_walk using (wpAny_updateSeq hl rfl (hz := h1) (_hz' := hz)), AutoSeq1.wpAny_loadPart' hl, AutoSeq1.wpAny_loadPart' hb
    exact ⟨_, rfl, h⟩
def rExtT (K : PySem.W.Frag) : V → List V → Hp → VK → Prop := fun x vs H Q => ∃ l b xs zs, x = .ref l ∧ vs = [.ref b] ∧ H l = some (.lst xs) ∧ SqT K H b zs ∧ xs.length + zs.length ≤ sizeLine ∧ Q .non (upd H l (.lst (xs ++ zs)))
theorem mt_extT {X : Cx} : MtR X "list.extend" (rExtT X.K) := by
  intro pins s σ H x vs v us Q J rx rv h
  obtain ⟨l, b, xs, zs, rfl, rfl, hH, hB, hz, q⟩ := h
  cases rx
  obtain ⟨u, rfl, ru⟩ := rv.one
  cases ru
  obtain ⟨z, its, n, r, hl, e⟩ := J.lstM hH
  obtain ⟨its2, r2, ⟨⟨c2, dd, d2, sl⟩, e2, ec, n2, ed⟩, _⟩ := J.tuple hB
  simp only at ec ed
  subst ec ed
  have el2 := r2.length
  have hsz : its.toArray.size + its2.toArray.size ≤ sizeLine := by
    rw [List.size_toArray, List.size_toArray]
    omega
  have h0 : ¬ (!its.toArray.isEmpty && Builtin.List.listTooLong (its.toArray.size + its2.toArray.size)) = true := by
    rw [notLongL hsz, Bool.and_false]
    decide
  refine call_meets F.slot_list_extend ⟨_, e, rfl⟩ F.entry_list_extend (F.args_list_extend_2 _ _) (ext_tup l its.toArray n b its2.toArray n2 dd sl h0 (by omega) (by omega)) ⟨e, e2, ?_⟩
  refine ⟨.non, _, J.lset (its' := its ++ its2) hH e (by simp) (r.append r2) (by rw [List.length_append]; omega), rfl, q⟩
theorem k_lenSet {X : Cx} {K : PySem.W.Frag} {a : Expr} {ta : TE} {p p2 q pos : Pos} (hK : X.K = K) (hc : X.calm = true) (hg : Gl X "len") (hm : X.mg "len" = none) (hg2 : Gl X "set") (hm2 : X.mg "set" = none) (ha : PE X a ta) (na : starEach [a] X.env = (false, eval a X.env) :: starEach [] X.env := by rfl) :
    PE X (.Call (.Name "len" p) [.Call (.Name "set" p2) [a] [] q] [] pos) (RZ.tLenSetI K ta) := hK ▸ RZ.pe_lenSetI hg hm hg2 hm2 ha hc na
def LenSetOn (K : PySem.W.Frag) (x : V) (H1 : Hp) (Q : VK) : Prop := ∃ (l : Addr) (ns : List Int), x = .ref l ∧ SqL K H1 l (ns.map V.int) ∧ ns.Nodup ∧ ns.length ≤ 4000 ∧ Q (.int (ns.length : Nat)) H1
theorem r_lenSet {K : PySem.W.Frag} {σ : L2.St} {H : Hp} {Q : VK} {te : TE} (h : te σ H fun x H1 => LenSetOn K x H1 Q) : RZ.tLenSetI K te σ H Q := h
/-! # what stays when a lambda is made -/
section
variable {H H' H1 : Hp} {S : Addr → Prop}
mutual
theorem Td.ext (e : LamX.ExtN H H') : ∀ {v : V} {d : PyData}, Td H v d → Td H' v d
  | _, _, .non => .non
  | _, _, .bl b => .bl b
  | _, _, .int i => .int i
  | _, _, .str x => .str x
  | _, _, .tup h r => .tup (e _ _ h (fun ps z => by cases z)) (TdAll.ext e r)
theorem TdAll.ext (e : LamX.ExtN H H') : ∀ {vs : List V} {ds : List PyData}, TdAll H vs ds → TdAll H' vs ds
  | _, _, .nil => .nil
  | _, _, .cons h r => .cons (Td.ext e h) (TdAll.ext e r)
end
theorem LsAt.ext {p : Addr} {ds : List PyData} (h : LsAt H p ds) (e : LamX.ExtN H H') : LsAt H' p ds := by
  obtain ⟨vs, h1, h2⟩ := h
  exact ⟨vs, e _ _ h1 (fun ps z => by cases z), h2.ext e⟩
theorem ext_fr (f : Fr No H H') : LamX.ExtN H H' := fun b o e _ => f.old b o e fun z => z
theorem ext_trans (a : LamX.ExtN H H1) (b : LamX.ExtN H1 H') : LamX.ExtN H H' := fun c o e n => b c o (a c o e n) n
theorem ext_refl : LamX.ExtN H H := fun _ _ e _ => e
/-- what is written was not there -/
theorem ext_mut (a : LamX.ExtN H H1) (f : Fr S H1 H') (h : ∀ b, S b → H b = none) : LamX.ExtN H H' := fun c o e n => f.old c o (a c o e n) fun z => by
  rw [h c z] at e
  cases e
end
/-- a frame of what is new, or may be written -/
theorem Fr.mutP {S S' : Addr → Prop} {H H1 H2 : Hp} (f : Fr S H H1) (g : Fr S' H1 H2) (h : ∀ b, S' b → S b ∨ H b = none) : Fr S H H2 := ⟨fun b o e n => g.old b o (f.old b o e n) (fun z => (h b z).elim n fun k => by rw [k] at e; cases e), fun b xs e => g.tup b xs (f.tup b xs e), fun b e => f.thr b (g.thr b e)⟩
/-- a statement's end by a word of one's own -/
theorem r_K {t : TS} {D : Ends} {σ : L2.St} {H : Hp} (J : L2.St → Hp → Prop) (hJ : ∀ σ' H', J σ' H' → D.nx σ' H') (h : ∀ D' : Ends, D'.rt = D.rt → (∀ σ' H', J σ' H' → D'.nx σ' H') → t D' σ H) : t D σ H := h D rfl hJ
/-! # tables behind some deeds -/
namespace Tb
def run (T : Tb) (ds : List Deed) : Tb := ds.foldl (fun T d => (T.deedR d).2) T
variable {T : Tb}
theorem run_snoc {ds : List Deed} {d : Deed} : T.run (ds ++ [d]) = ((T.run ds).deedR d).2 := by
  unfold run
  rw [List.foldl_append]
  rfl
theorem deedR_n (d : Deed) : (T.deedR d).2.n = T.n := by
  cases d with
  | ask a l => exact askR_n
  | give a l => exact giveR_n
  | leave a => exact leaveR_n
theorem deedR_m (d : Deed) : (T.deedR d).2.m = T.m := by
  cases d with
  | ask a l => exact askR_m
  | give a l => exact giveR_m
  | leave a => exact leaveR_m
theorem Wf.run (W : T.Wf) : ∀ ds : List Deed, (T.run ds).Wf := fun ds => by
  induction ds generalizing T with
  | nil => exact W
  | cons d r ih => exact ih (W.deedR d)
theorem run_n : ∀ ds : List Deed, (T.run ds).n = T.n := fun ds => by
  induction ds generalizing T with
  | nil => rfl
  | cons d r ih => exact ih.trans (deedR_n d)
theorem run_m : ∀ ds : List Deed, (T.run ds).m = T.m := fun ds => by
  induction ds generalizing T with
  | nil => rfl
  | cons d r ih => exact ih.trans (deedR_m d)
end Tb
/-- deeds in a list -/
structure DsAt (H : Hp) (p : Addr) (ds : List Deed) : Prop where
  ex : ∃ as : List Addr, H p = some (.lst (as.map V.ref)) ∧ as.length = ds.length ∧ ∀ (i : Nat) a d, as[i]? = some a → ds[i]? = some d → H a = some (.tup d.vs)
theorem DsAt.fr {S : Addr → Prop} {H H' : Hp} {p : Addr} {ds : List Deed} (h : DsAt H p ds) (f : Fr S H H') (n : ¬ S p) : DsAt H' p ds := by
  obtain ⟨as, h1, h2, h3⟩ := h
  exact ⟨as, f.old _ _ h1 n, h2, fun i a d e1 e2 => f.tup _ _ (h3 i a d e1 e2)⟩
theorem DsAt.ext {H H' : Hp} {p : Addr} {ds : List Deed} (h : DsAt H p ds) (e : LamX.ExtN H H') : DsAt H' p ds := by
  obtain ⟨as, h1, h2, h3⟩ := h
  exact ⟨as, e _ _ h1 (fun ps z => by cases z), h2, fun i a d e1 e2 => e _ _ (h3 i a d e1 e2) (fun ps z => by cases z)⟩
theorem DsAt.app {H : Hp} {p a : Addr} {ds : List Deed} {d : Deed} (h : DsAt H p ds) (ha : H a = some (.tup d.vs)) (hl : ds.length ≤ 1000) {QH : Hp → Prop} {Q : VK} (q : ∀ H', DsAt H' p (ds ++ [d]) → Fr (Only1 p) H H' → Q .non H') : rAppend (.ref p) [.ref a] H Q := by
  obtain ⟨as, h1, h2, h3⟩ := h
  refine r_append h1 (by rw [List.length_map, h2]; exact hl) ?_
  have f : Fr (Only1 p) H (upd H p (.lst (as.map V.ref ++ [V.ref a]))) := Fr.put h1 (fun xs z => by cases z)
  refine q _ ⟨as ++ [a], by rw [upd_same, List.map_append]; rfl, by rw [List.length_append, List.length_append, h2]; rfl, fun i b e k1 k2 => ?_⟩ f
  by_cases hi : i < as.length
  · rw [List.getElem?_append_left hi] at k1
    rw [List.getElem?_append_left (by rw [← h2]; exact hi)] at k2
    exact f.tup _ _ (h3 i b e k1 k2)
  · have hi2 := (List.getElem?_eq_some_iff.mp k1).1
    rw [List.length_append, List.length_singleton] at hi2
    have ei : i = as.length := by omega
    subst ei
    rw [List.getElem?_append_right (Nat.le_refl _), Nat.sub_self] at k1
    rw [h2, List.getElem?_append_right (Nat.le_refl _), Nat.sub_self] at k2
    cases k1
    cases k2
    exact f.tup _ _ ha
/-! # promises -/
abbrev sp_Ldeeds (K : PySem.W.Frag) : Sp := sp1 fun x H Q _ => ∃ st sc ns, x = .ref st ∧ StAt K H st sc ns ∧ ScF K sc ns (Only1 st) ∧
  ∀ (n m : Nat) (ds : List Deed) p pd (u : V) H', (Tb.new n m).Sz → ds.length ≤ 60 → H' p = some (.tup [.int (n : Int), .int (m : Int), .ref pd, u]) → DsAt H' pd ds → Fr (Only1 st) H H' → Q (.ref p) H'
abbrev sp_Lagain (Tl : List (Addr × Str)) (K : PySem.W.Frag) : Sp := sp3 fun x y z H Q _ => ∃ (n m : Nat) (pd : Addr) (ds : List Deed), x = .int (n : Int) ∧ y = .int (m : Int) ∧ z = .ref pd ∧ (Tb.new n m).Sz ∧ DsAt H pd ds ∧ LamX.Tabs Tl H ∧
  ∀ A H', TbK K H' A ((Tb.new n m).run ds) → LamX.ExtN H H' → LamX.Tabs Tl H' → (∀ b, A.has b → H b = none) → Q (.ref A.p) H'
/-- a table's method in the catcher -/
theorem r_kindGive {K : PySem.W.Frag} {A : TA} {T : Tb} {a l : Int} {i j k : Nat} {σ : L2.St} {H : Hp} {Q : VK} (hi : σ[i]? = some (some (.ref A.p))) (hj : σ[j]? = some (some (.int a))) (hk : σ[k]? = some (some (.int l))) (hT : TbK K H A T) (hW : T.Wf)
    (q : ∀ v H', TbK K H' A (T.giveR a l).2 → Fr A.foot H H' → Q v H') : TKind K (fun E H' Q' => tMeth (tbC K) "give" (sp_t_give K) [] E (tVar i) (tCons (tVar j) (tCons (tVar k) tNil)) σ H' Q') H Q := by
  refine r_meth ⟨_, hi, r_tmeth hT (by decide +kernel) ⟨_, hj, _, hk, ?_⟩⟩
  refine ⟨_, _, _, rfl, A, T, a, l, rfl, rfl, rfl, hT, hW, fun w T' e => ?_, fun b T' e H' hT' f => ?_⟩
  · refine ⟨rfl, w, rfl, fun H2 f => q _ H2 ?_ f.up⟩
    rw [e, Tb.giveR_same e]
    exact hT.fr0 f
  · refine q _ H' ?_ f
    rw [e]
    exact hT'
theorem r_kindAsk {K : PySem.W.Frag} {A : TA} {T : Tb} {a l : Int} {i j k : Nat} {σ : L2.St} {H : Hp} {Q : VK} (hi : σ[i]? = some (some (.ref A.p))) (hj : σ[j]? = some (some (.int a))) (hk : σ[k]? = some (some (.int l))) (hT : TbK K H A T) (hW : T.Wf)
    (q : ∀ v H', TbK K H' A (T.askR a l).2 → Fr A.foot H H' → Q v H') : TKind K (fun E H' Q' => tMeth (tbC K) "ask" (sp_t_ask K) [] E (tVar i) (tCons (tVar j) (tCons (tVar k) tNil)) σ H' Q') H Q := by
  refine r_meth ⟨_, hi, r_tmeth hT (by decide +kernel) ⟨_, hj, _, hk, ?_⟩⟩
  refine ⟨_, _, _, rfl, A, T, a, l, rfl, rfl, rfl, hT, hW, fun w T' e => ?_, fun b T' e H' hT' f => ?_⟩
  · refine ⟨rfl, w, rfl, fun H2 f => q _ H2 ?_ f.up⟩
    rw [e, Tb.askR_same e]
    exact hT.fr0 f
  · refine q _ H' ?_ f
    rw [e]
    exact hT'
/-! # comparing rings -/
theorem ringD_eqv (r : List Nat) : PyData.eqv (ringD r) (ringD r) = true := SeqAt.eqv_refl _ (ringD_cmp r).1
theorem rings_eqv (rs : List (List Nat)) : PyData.eqv (.list (rs.map ringD)) (.list (rs.map ringD)) = true := SeqAt.eqv_refl _ (by simp only [PyData.canLay0]; exact (rings_cmp rs).1)
theorem any_ring {rs : List (List Nat)} {r : List Nat} (h : r ∈ rs) : ((rs.map ringD).any fun e => PyData.eqv e (ringD r)) = true := List.any_eq_true.mpr ⟨ringD r, List.mem_map.mpr ⟨r, h, rfl⟩, ringD_eqv r⟩
theorem r_notInT {K : PySem.W.Frag} {H : Hp} {Q : VK} {p : Addr} {b : Nat} {f : List Nat} (e : H p = some (.tup (f.map nV))) (q : Q (.bl (decide (b ∉ f))) H) : rIn K true (.int (b : Int)) (.ref p) H Q := ⟨p, _, rfl, .inr (SqT.of e), rfl, nats_flat _, by
  have ei : inV (V.int (b : Int)) (f.map nV) = decide (b ∈ f) := inV_nats
  rw [if_pos rfl, ei, ← decide_not]
  exact q⟩
/-- a ring in a list of rings -/
theorem ring_at {H : Hp} {vs : List V} {rs : List (List Nat)} (h : TdAll H vs (rs.map ringD)) {i : Nat} {x : V} (hx : vs[i]? = some x) : ∃ (r : List Nat) (a : Addr), rs[i]? = some r ∧ x = .ref a ∧ H a = some (.tup (r.map nV)) := by
  have hi : i < rs.length := by
    have := (List.getElem?_eq_some_iff.mp hx).1
    rw [h.len, List.length_map] at this
    exact this
  obtain ⟨u, e2, t⟩ := h.at (i := i) (d := ringD rs[i]) (by rw [List.getElem?_map, List.getElem?_eq_getElem hi]; rfl)
  rw [hx] at e2
  cases e2
  cases t with
  | tup e a => exact ⟨_, _, List.getElem?_eq_getElem hi, rfl, by rw [e, td_ints_v a]⟩
/-- over a list that is reckoned -/
theorem r_lcLc {K : PySem.W.Frag} {σ : L2.St} {H : Hp} {Q : VK} {tt : TT} {te tl : TE} {g : TG} {vs : List Nat} (h : tl σ H fun x H1 => tLc (iList K (tC x)) g tt te vs σ H1 Q) : tLc (iList K tl) g tt te vs σ H Q := h
theorem notIn_false {rs : List (List Nat)} {p : List Nat → Bool} (h : ∀ r ∈ rs, p r = false) : rs.filter p = [] := List.filter_eq_nil_iff.mpr fun r hr => by rw [h r hr]; exact Bool.false_ne_true
theorem turns_none (n : Nat) (d : Nat → PyData) : turns (fun _ => false) d n = [] := by unfold turns; simp
end AL

namespace AL
open PySem PySem.Spec PyProof.Rows L2
/-! # the least to break (no program in sight) -/
namespace Tb
variable {T T' : Tb} {a b c l : Nat}
/-- how many locks an agent holds -/
def wt (T : Tb) (a : Nat) : Nat := (T.held a).length
def wtP (T : Tb) (a : Nat) : Int × Int := ((T.wt a : Int), (a : Int))
def wts (T : Tb) (as : List Nat) : Nat := (as.map T.wt).sum
/-- the lightest -/
def lightT (T : Tb) : List Nat → Nat
  | [] => 0
  | [a] => a
  | a :: b :: r => if leB (T.wtP a) (T.wtP (lightT T (b :: r))) = true then a else lightT T (b :: r)
where leB (p q : Int × Int) : Bool := decide (p.1 < q.1 ∨ (p.1 = q.1 ∧ p.2 ≤ q.2))
theorem leP_tot (p q : Int × Int) : leP p q ∨ leP q p := by unfold leP; omega
theorem light_ok : ∀ {r : List Nat}, r ≠ [] → T.lightT r ∈ r ∧ ∀ b ∈ r, leP (T.wtP (T.lightT r)) (T.wtP b)
  | [a], _ => ⟨List.mem_cons_self, fun b hb => by rw [List.mem_singleton.mp hb]; exact leP_refl _⟩
  | a :: b :: r, _ => by
    obtain ⟨h1, h2⟩ := light_ok (r := b :: r) (by simp)
    have e : T.lightT (a :: b :: r) = if lightT.leB (T.wtP a) (T.wtP (T.lightT (b :: r))) = true then a else T.lightT (b :: r) := rfl
    rw [e]
    split
    · rename_i q
      have q' : leP (T.wtP a) (T.wtP (T.lightT (b :: r))) := by
        unfold lightT.leB at q
        have q2 := of_decide_eq_true q
        exact q2
      refine ⟨List.mem_cons_self, fun c hc => ?_⟩
      rcases List.mem_cons.mp hc with z | z
      · rw [z]; exact leP_refl _
      · exact leP_trans q' (h2 c z)
    · rename_i q
      have q' : ¬ leP (T.wtP a) (T.wtP (T.lightT (b :: r))) := fun z => q (by
        unfold lightT.leB
        exact decide_eq_true z)
      refine ⟨List.mem_cons_of_mem _ h1, fun c hc => ?_⟩
      rcases List.mem_cons.mp hc with z | z
      · rw [z]; exact (leP_tot _ _).resolve_left q'
      · exact h2 c z
theorem light_one {r : List Nat} (ha : a ∈ r) (h : ∀ b ∈ r, leP (T.wtP a) (T.wtP b)) : T.lightT r = a := by
  obtain ⟨h1, h2⟩ := light_ok (T := T) (r := r) (List.ne_nil_of_mem ha)
  have p := h _ h1
  have q := h2 _ ha
  unfold leP wtP at p q
  simp only at p q
  omega
theorem light_wt {r : List Nat} (ha : a ∈ r) : T.wt (T.lightT r) ≤ T.wt a := by
  have q := (light_ok (T := T) (List.ne_nil_of_mem ha)).2 _ ha
  unfold leP wtP at q
  simp only at q
  omega
/-- all the lightest -/
def lights (T : Tb) : List Nat := T.ringsT.map T.lightT
theorem lights_len (W : T.Wf) : T.lights.length ≤ 8 := by
  unfold lights
  rw [List.length_map]
  exact (rings_len W).1
theorem lights_lt (W : T.Wf) : ∀ x ∈ T.lights, x < T.n := fun x hx => by
  obtain ⟨r, hr, rfl⟩ := List.mem_map.mp hx
  have R := (mem_rings W).mp hr
  exact R.lt _ (light_ok R.ne).1
/-! ### several leave -/
def leaveAll (T : Tb) : List Nat → Tb
  | [] => T
  | a :: r => leaveAll (T.leave a).2 r
theorem Wf.leaveAll : ∀ {as : List Nat} {T : Tb}, T.Wf → (∀ a ∈ as, a < T.n) → (T.leaveAll as).Wf ∧ (T.leaveAll as).n = T.n
  | [], T, W, _ => ⟨W, rfl⟩
  | a :: r, T, W, h => by
    have ha := h a List.mem_cons_self
    have k := Wf.leaveAll (as := r) (W.leave ha) (fun b hb => by rw [leave_n]; exact h b (List.mem_cons_of_mem _ hb))
    exact ⟨k.1, k.2.trans leave_n⟩
theorem ring_leaveAll : ∀ {as : List Nat} {T : Tb}, T.Wf → (∀ a ∈ as, a < T.n) → ∀ r, (T.leaveAll as).Ring r ↔ T.Ring r ∧ ∀ a ∈ as, a ∉ r
  | [], T, W, _, r => ⟨fun R => ⟨R, fun a ha => by cases ha⟩, fun R => R.1⟩
  | a :: as, T, W, h, r => by
    have ha := h a List.mem_cons_self
    have k := ring_leaveAll (as := as) (W.leave ha) (fun b hb => by rw [leave_n]; exact h b (List.mem_cons_of_mem _ hb)) r
    refine k.trans ?_
    rw [ring_leave W ha r]
    constructor
    · rintro ⟨⟨h1, h2⟩, h3⟩
      refine ⟨h1, fun b hb => ?_⟩
      rcases List.mem_cons.mp hb with z | z
      · rw [z]; exact h2
      · exact h3 b z
    · rintro ⟨h1, h2⟩
      exact ⟨⟨h1, h2 a List.mem_cons_self⟩, fun b hb => h2 b (List.mem_cons_of_mem _ hb)⟩
/-- where the lightest leave no ring is left -/
theorem lights_break (W : T.Wf) : (T.leaveAll T.lights).ringsT = [] := by
  obtain ⟨W', _⟩ := Wf.leaveAll W (lights_lt W)
  refine List.eq_nil_iff_forall_not_mem.mpr fun r hr => ?_
  obtain ⟨R, h⟩ := (ring_leaveAll W (lights_lt W) r).mp ((mem_rings W').mp hr)
  exact h (T.lightT r) (List.mem_map.mpr ⟨r, (mem_rings W).mpr R, rfl⟩) (light_ok R.ne).1
theorem sum_erase {f : Nat → Nat} : ∀ {as : List Nat}, a ∈ as → (as.map f).sum = f a + ((as.erase a).map f).sum
  | b :: r, h => by
    by_cases e : b = a
    · subst e
      rw [List.erase_cons_head]
      rfl
    · have hr : a ∈ r := (List.mem_cons.mp h).resolve_left fun z => e z.symm
      rw [List.erase_cons_tail (by simpa using e), List.map_cons, List.map_cons, List.sum_cons, List.sum_cons, sum_erase hr]
      omega
theorem light_sum : ∀ {rs : List (List Nat)} {as : List Nat}, rs.Pairwise (fun r s => ∀ x ∈ r, x ∉ s) → as.Nodup → (∀ r ∈ rs, ∃ a ∈ as, a ∈ r) → ((rs.map T.lightT).map T.wt).sum ≤ (as.map T.wt).sum
  | [], as, _, _, _ => Nat.zero_le _
  | r :: rs, as, p, nd, h => by
    obtain ⟨p1, p2⟩ := List.pairwise_cons.mp p
    obtain ⟨a, h1, h2⟩ := h r List.mem_cons_self
    have ih := light_sum (rs := rs) (as := as.erase a) p2 (nd.erase a) fun s hs => by
      obtain ⟨b, k1, k2⟩ := h s (List.mem_cons_of_mem _ hs)
      refine ⟨b, ?_, k2⟩
      exact (List.mem_erase_of_ne (fun z : b = a => p1 s hs a h2 (z ▸ k2))).mpr k1
    rw [sum_erase h1, List.map_cons, List.map_cons, List.sum_cons]
    have := light_wt (T := T) h2
    omega
/-- no others that break all weigh less -/
theorem lights_least (W : T.Wf) {as : List Nat} (nd : as.Nodup) (h : ∀ a ∈ as, a < T.n) (hb : (T.leaveAll as).ringsT = []) : T.wts T.lights ≤ T.wts as := by
  obtain ⟨W', _⟩ := Wf.leaveAll W h
  refine light_sum (rings_apart W) nd fun r hr => ?_
  refine Classical.byContradiction fun z => ?_
  have R : (T.leaveAll as).Ring r := (ring_leaveAll W h r).mpr ⟨(mem_rings W).mp hr, fun a ha hx => z ⟨a, ha, hx⟩⟩
  have := (mem_rings W').mpr R
  rw [hb] at this
  cases this
end Tb
/-! ### all sets -/
def setsT : Nat → List (List Nat)
  | 0 => [[]]
  | k + 1 => setsT k ++ (setsT k).map (· ++ [k])
theorem sets_ok : ∀ {k : Nat} {s : List Nat}, s ∈ setsT k → s.Nodup ∧ ∀ x ∈ s, x < k
  | 0, s, h => by
    rw [List.mem_singleton.mp h]
    exact ⟨List.nodup_nil, fun x hx => by cases hx⟩
  | k + 1, s, h => by
    rcases List.mem_append.mp h with q | q
    · obtain ⟨h1, h2⟩ := sets_ok q
      exact ⟨h1, fun x hx => Nat.lt_succ_of_lt (h2 x hx)⟩
    · obtain ⟨t, ht, rfl⟩ := List.mem_map.mp q
      obtain ⟨h1, h2⟩ := sets_ok ht
      refine ⟨?_, fun x hx => ?_⟩
      · show (t ++ [k]).Nodup
        rw [List.nodup_append]
        exact ⟨h1, by simp, fun x hx y hy z => by
          rw [List.mem_singleton.mp hy] at z
          exact Nat.lt_irrefl _ (z ▸ h2 x hx)⟩
      · rcases List.mem_append.mp hx with z | z
        · exact Nat.lt_succ_of_lt (h2 x z)
        · rw [List.mem_singleton.mp z]; exact Nat.lt_succ_self _
theorem sets_len : ∀ k : Nat, (setsT k).length = 2 ^ k
  | 0 => rfl
  | k + 1 => by
    show (setsT k ++ (setsT k).map (· ++ [k])).length = _
    rw [List.length_append, List.length_map, sets_len k]
    omega
theorem sets_le {k : Nat} (h : k ≤ 8) : (setsT k).length ≤ 256 := by
  rw [sets_len]
  exact Nat.pow_le_pow_right (by decide) h
theorem sets_mem_le {k : Nat} (h : k ≤ 8) {s : List Nat} (hs : s ∈ setsT k) : s.length ≤ 8 := by
  obtain ⟨h1, h2⟩ := sets_ok hs
  exact Nat.le_trans (Tb.nodup_le h1 h2) h
/-- rising lists of the same numbers are one -/
theorem perm_one : ∀ {xs ys : List Int}, xs.Perm ys → xs.Pairwise (· ≤ ·) → ys.Pairwise (· ≤ ·) → xs = ys
  | [], ys, p, _, _ => (List.Perm.nil_eq p)
  | x :: xs, [], p, _, _ => absurd p.length_eq (by simp)
  | x :: xs, y :: ys, p, h1, h2 => by
    obtain ⟨a1, a2⟩ := List.pairwise_cons.mp h1
    obtain ⟨b1, b2⟩ := List.pairwise_cons.mp h2
    have e : x = y := by
      have k1 : x ∈ y :: ys := p.subset List.mem_cons_self
      have k2 : y ∈ x :: xs := p.symm.subset List.mem_cons_self
      rcases List.mem_cons.mp k1 with z | z
      · exact z
      · rcases List.mem_cons.mp k2 with w | w
        · exact w.symm
        · exact Int.le_antisymm (a1 y w) (b1 x z)
    subst e
    rw [perm_one (List.Perm.cons_inv p) a2 b2]
end AL

namespace AL
open PySem PySem.Spec PyProof.Rows L2
/-! # over a list or a tuple -/
section
variable {X : Cx} {K : PySem.W.Frag}
def iSeq (K : PySem.W.Frag) (i : Nat) : TI := fun σ H R => iList K (tVar i) σ H R ∨ iTup K (tVar i) σ H R
theorem k_seqI {tg l : Expr} {i : Nat} (hK : X.K = K) (hl : PE X l (tVar i)) : PI X tg l (iSeq K i) := by
  subst hK
  refine ⟨fun pins s σ H R J h => ?_⟩
  rcases h with h | h
  · exact (pi_list hl).run pins s σ H R J h
  · exact (pi_tup hl).run pins s σ H R J h
end
section
variable {K : PySem.W.Frag} {σ : L2.St} {H : Hp} {Q : VK} {tt : TT} {te : TE} {g : TG} {vs : List Nat} {i : Nat}
theorem r_lcSL (h : tLc (iList K (tVar i)) g tt te vs σ H Q) : tLc (iSeq K i) g tt te vs σ H Q := Or.inl h
theorem r_lcST (h : tLc (iTup K (tVar i)) g tt te vs σ H Q) : tLc (iSeq K i) g tt te vs σ H Q := Or.inr h
theorem r_forSL {tb : TS} {D : Ends} (h : tFor (iList K (tVar i)) g tb D σ H) : tFor (iSeq K i) g tb D σ H := Or.inl h
theorem r_forST {tb : TS} {D : Ends} (h : tFor (iTup K (tVar i)) g tb D σ H) : tFor (iSeq K i) g tb D σ H := Or.inr h
theorem r_forT {tl : TE} {tb : TS} {D : Ends} {j : Nat} {a : Addr} {xs : List V} (ha : ∀ Q : VK, Q (.ref a) H → tl σ H Q) (hx : SqT K H a xs) (Pv : Nat → L2.St → Hp → Prop) (h0 : Pv 0 σ H) (hl : ∀ i σ' H', i ≤ xs.length → Pv i σ' H' → SqT K H' a xs)
    (hs : ∀ i x σ' H', xs[i]? = some x → Pv i σ' H' → tb { D with nx := Pv (i + 1), ct := Pv (i + 1), bk := D.nx } (σ'.set j (some x)) H') (hd : ∀ σ' H', Pv xs.length σ' H' → D.nx σ' H') : tFor (iTup K tl) (gName j) tb D σ H :=
  ha _ ⟨a, rfl, ⟨xs, hx⟩, for_tup Pv h0 hl hs hd⟩
end
/-- numbers in a list or a tuple -/
def NsAt (H : Hp) (y : V) (as : List Nat) : Prop := ∃ a, y = .ref a ∧ (H a = some (.lst (as.map nV)) ∨ H a = some (.tup (as.map nV)))
theorem nats_at {as : List Nat} {i : Nat} {x : V} (h : (as.map nV)[i]? = some x) : ∃ z : Nat, as[i]? = some z ∧ x = .int (z : Int) := by
  rw [List.getElem?_map] at h
  cases q : as[i]? with
  | none => rw [q] at h; cases h
  | some z => rw [q] at h; exact ⟨z, rfl, (Option.some.inj h).symm⟩
theorem sum_cast : ∀ xs : List Nat, (xs.map fun x : Nat => (x : Int)).sum = ((xs.sum : Nat) : Int)
  | [] => rfl
  | x :: r => by
    rw [List.map_cons, List.sum_cons, List.sum_cons, sum_cast r]
    omega
/-! # pairs -/
def pairD (p : Int × Int) : PyData := .tuple [.int p.1, .int p.2]
theorem pair_at {H : Hp} {p : Int × Int} {v : V} (h : Td H v (pairD p)) : ∃ t, v = .ref t ∧ H t = some (.tup [.int p.1, .int p.2]) := by
  cases h with
  | tup e a =>
    cases a with
    | cons a1 a2 =>
      cases a2 with
      | cons b1 b2 =>
        cases b2
        cases a1
        cases b1
        exact ⟨_, rfl, e⟩
theorem r_minPairs {K : PySem.W.Frag} {H : Hp} {Q : VK} {p : Addr} {ps : List (Int × Int)} (h : LsAt H p (ps.map pairD)) (h0 : ps ≠ []) (q : ∀ (m : Int × Int) t, m ∈ ps → (∀ q ∈ ps, leP m q) → H t = some (.tup [.int m.1, .int m.2]) → Q (.ref t) H) : rMinP K [.ref p] H Q := by
  obtain ⟨vs, e, a⟩ := h
  have at_ : ∀ (i : Nat) x m, vs[i]? = some x → ps[i]? = some m → ∃ t, x = .ref t ∧ H t = some (.tup [.int m.1, .int m.2]) := fun i x m hx hm => by
    obtain ⟨v, e2, t⟩ := a.at (i := i) (d := pairD m) (by rw [List.getElem?_map, hm]; rfl)
    rw [hx] at e2
    cases e2
    exact pair_at t
  refine ⟨p, vs, ps, rfl, SqL.of e, by rw [a.len, List.length_map], h0, fun i x m hx hm => ?_, fun i x m hx hm hq => ?_⟩
  · obtain ⟨t, e1, e2⟩ := at_ i x m hx hm
    exact ⟨t, e1, SqT.of e2⟩
  · obtain ⟨t, rfl, e2⟩ := at_ i x m hx hm
    exact q m t (List.mem_of_getElem? hm) hq e2
abbrev sp_lightest (K : PySem.W.Frag) : Sp := sp1 fun x H Q _ => ∃ p, ∃ ps : List (Int × Int), x = .ref p ∧ LsAt H p (ps.map pairD) ∧ ps ≠ [] ∧ ∀ m : Int × Int, m ∈ ps → (∀ q ∈ ps, leP m q) → Q (.int m.2) H
/-! # promises -/
abbrev sp_least (K : PySem.W.Frag) : Sp := sp1 fun x H Q _ => ∃ A T, x = .ref A.p ∧ TbK K H A T ∧ T.Wf ∧ ∀ p ps (zs : List Int) H', H' p = some (.tup [.int (T.wts T.lights : Int), .ref ps]) → H ps = none → H' ps = some (.lst (zs.map V.int)) →
  zs.Perm (T.lights.map fun x : Nat => (x : Int)) → zs.Pairwise (· ≤ ·) → Fr No H H' → Q (.ref p) H'
abbrev sp_Lcopy (K : PySem.W.Frag) : Sp := sp1 fun x H Q _ => ∃ D T, x = .ref D.d ∧ LdAt H D T ∧ ∀ D' H', LdAt H' D' T → Fr No H H' → (∀ b, D'.has b → H b = none) → Q (.ref D'.d) H'
abbrev sp_Lweight (K : PySem.W.Frag) : Sp := sp2 fun x y H Q _ => ∃ D T as, x = .ref D.d ∧ LdAt H D T ∧ NsAt H y as ∧ as.length ≤ 900 ∧ ∀ H', Fr No H H' → Q (.int (T.wts as : Int)) H'
abbrev sp_Lleft (K : PySem.W.Frag) : Sp := sp2 fun x y H Q _ => ∃ D T as, x = .ref D.d ∧ LdAt H D T ∧ T.Wf ∧ NsAt H y as ∧ (∀ a ∈ as, a < T.n) ∧ ∀ H', Fr No H H' → Q (.bl (!decide ((T.leaveAll as).ringsT = []))) H'
abbrev sp_Lsets (K : PySem.W.Frag) : Sp := sp1 fun x H Q _ => ∃ n : Nat, x = .int (n : Int) ∧ n ≤ 8 ∧ ∀ p H', H p = none → LsAt H' p ((setsT n).map ringD) → Fr No H H' → Q (.ref p) H'
namespace Tb
theorem leaveAll_snoc : ∀ {as : List Nat} {T : Tb} {a : Nat}, T.leaveAll (as ++ [a]) = ((T.leaveAll as).leave a).2
  | [], T, a => rfl
  | b :: as, T, a => leaveAll_snoc (as := as) (T := (T.leave b).2)
end Tb
/-- a lock is loosed -/
theorem fr_lock {H H' : Hp} {d : Addr} {od : Obj} {u : HO} (nt : ∀ xs, u ≠ .tup xs) (h : H d = some u) (f : Fr No (upd H d (.frz od u)) H') : Fr No H (upd H' d u) := by
  refine ⟨fun b o e _ => ?_, fun b xs e => ?_, fun b e => ?_⟩
  · by_cases z : b = d
    · rw [z, upd_same, ← h, ← z]; exact e
    · rw [upd_ne z]
      exact f.lst (by rw [upd_ne z]; exact e)
  · have z : b ≠ d := fun z => by
      rw [z, h] at e
      exact nt xs (Option.some.inj e)
    rw [upd_ne z]
    exact f.tup _ _ (by rw [upd_ne z]; exact e)
  · by_cases z : b = d
    · rw [z, upd_same] at e; cases e
    · rw [upd_ne z] at e
      have := f.thr b e
      rw [upd_ne z] at this
      exact this
section
variable {K : PySem.W.Frag} {σ : L2.St} {H : Hp} {Q : VK} {t td : TE}
theorem r_lockE {d : Addr} {u : HO} (h : H d = some u) (mu : Mut (some u)) (nt : ∀ xs, u ≠ .tup xs) (q : ∀ od, t σ (upd H d (.frz od u)) fun v H' => H' d = some (.frz od u) ∧ Q v (upd H' d u)) : tLockE t σ H Q := ⟨d, u, h, mu, q⟩
theorem r_keysI {R : It → Hp → Prop} (h : td σ H fun x H1 => ∃ d o, x = .ref d ∧ ((∃ kvs, H1 d = some (.frz o (.dK kvs)) ∧ R (Itk d o kvs) H1) ∨ ∃ kvs, H1 d = some (.frz o (.dT kvs)) ∧ R (Itkt d o kvs) H1)) : iKeys td σ H R := h
end
/-- sum of ints -/
theorem r_sumI {K : PySem.W.Frag} {H : Hp} {Q : VK} {p : Addr} {ns : List Int} (h : LsAt H p (ns.map PyData.int)) (q : Q (.int ns.sum) H) : rSum K [.ref p] H Q := ⟨p, ns, rfl, SqL.of h.ints, q⟩
/-- a tuple of numbers, one more -/
theorem r_catN {K : PySem.W.Frag} {H : Hp} {Q : VK} {a b : Addr} {s : List Nat} {k : Nat} (ha : H a = some (.tup (s.map nV))) (hb : H b = some (.tup [.int (k : Int)])) (hl : s.length ≤ 900) (q : ∀ v H', Td H' v (ringD (s ++ [k])) → Fr No H H' → Q v H') : rCatA K (.ref a) (.ref b) H Q := by
  have td : ∀ {p : Addr} {H' : Hp}, H' p = some (.tup ((s ++ [k]).map nV)) → Td H' (.ref p) (ringD (s ++ [k])) := fun e => .tup e (td_nats _ _)
  refine ⟨a, b, _, _, rfl, rfl, SqT.of ha, SqT.of hb, ?_, fun e => ?_, (fun _ e => by cases e), fun _ _ p hp => ?_⟩
  · rw [List.length_map]
    exact Nat.le_of_lt (small1000 (by show _ + 1 ≤ 1000; omega))
  · have es : s = [] := by simpa using e
    refine q _ H ?_ Fr.refl
    subst es
    exact td hb
  · refine q _ _ (td ?_) (Fr.new hp)
    rw [upd_same, List.map_append]
    rfl
def rDictP (K : PySem.W.Frag) : List V → Hp → VK → Prop := fun xs H Q => ∃ (a : Addr) (ps : List Addr) (kvs : List (Key × V)), xs = [.ref a] ∧ SqL K H a (ps.map V.ref) ∧ Paired (fun p kv => SqT K H p [kV kv.1, kv.2]) ps kvs ∧ ∀ p, H p = none → Q (.ref p) (upd H p (.dK (mergeK [] kvs)))
theorem k_dictP {X : Cx} {K : PySem.W.Frag} (hK : X.K = K) (hc : X.calm = true) : CallR X (.type "dict") (rDictP K) := hK ▸ call_dictP hc
theorem dd_ints {H : Hp} : ∀ xs : List Int, DdAll H (xs.map V.int) (xs.map PyData.int)
  | [] => .nil
  | x :: r => .cons (.int x) (dd_ints r)
end AL

namespace AL
open PySem PySem.Spec PyProof.Rows L2
def top (i : Nat) : Stmt := PySem.Challenge.pw_asklock_k06_whole_the_least_to_break.main.body.getD i (.Pass ⟨0, 0, 0, 0⟩)
abbrev s_next_of : Stmt := top 2
abbrev s_chain : Stmt := top 3
abbrev s_ring_of : Stmt := top 4
abbrev s_rings : Stmt := top 5
abbrev s_lightest : Stmt := top 6
abbrev s_least : Stmt := top 7
abbrev s_t_init : Stmt := inClass (top 24) 0
abbrev s_t_need_agent : Stmt := inClass (top 24) 2
abbrev s_t_need_lock : Stmt := inClass (top 24) 3
abbrev s_t_need_both : Stmt := inClass (top 24) 4
abbrev s_t_need_free_to : Stmt := inClass (top 24) 5
abbrev s_t_take : Stmt := inClass (top 24) 6
abbrev s_t_ask : Stmt := inClass (top 24) 7
abbrev s_t_pass_on : Stmt := inClass (top 24) 8
abbrev s_t_give : Stmt := inClass (top 24) 9
abbrev s_t_leave : Stmt := inClass (top 24) 10
abbrev s_t_waits : Stmt := inClass (top 24) 11
abbrev s_t_held : Stmt := inClass (top 24) 12
abbrev s_t_holder : Stmt := inClass (top 24) 14
abbrev s_t_agents : Stmt := inClass (top 24) 17
abbrev s_t_locks : Stmt := inClass (top 24) 18
abbrev s_Lstart : Stmt := top 26
abbrev s_Ldrawn : Stmt := top 27
abbrev s_Lsame : Stmt := top 28
abbrev s_Ltable : Stmt := top 29
abbrev s_Lgot : Stmt := top 30
abbrev s_Lpassed : Stmt := top 31
abbrev s_Lfault : Stmt := top 32
abbrev s_Lask : Stmt := top 33
abbrev s_Lgive : Stmt := top 34
abbrev s_Lheld : Stmt := top 35
abbrev s_Lleave : Stmt := top 36
abbrev s_Lkind : Stmt := top 37
abbrev s_Ldeed : Stmt := top 38
abbrev s_Ldue : Stmt := top 39
abbrev s_Ldoes : Stmt := top 40
abbrev s_Lgrown : Stmt := top 41
abbrev s_Lnext : Stmt := top 42
abbrev s_Lrings : Stmt := top 43
abbrev s_Lcopy : Stmt := top 44
abbrev s_Lleft : Stmt := top 45
abbrev s_Lweight : Stmt := top 46
abbrev s_Lsets : Stmt := top 47
abbrev s_law : Stmt := top 48
def scopeOf (x : Str) : Scope := if x = "_law_grown" then defScope s_Lgrown else ⟨.function, [], false, false, []⟩
def tf : List He.Defn := [("_law_grown", none)]
def Ts (K : PySem.W.Frag) : List (Addr × Str) := tf.map fun d => ((He.cT K d).2, lamQ d.1 (scopeOf d.1))
def TBs (base : Heap) (mg : Str → Option Value) (K : PySem.W.Frag) : Prop := ∀ d ∈ tf, LamX.TabB base mg (He.cT K d).1 (He.cT K d).2
structure Txt (K : PySem.W.Frag) (mg : Str → Option Value) : Prop where
  ts : (tf.map fun d => (He.cT K d).2).Nodup
  e_LockError : ExT K mg "LockError"
  e_NoTable : ExT K mg "NoTable"
  e_NoHall : ExT K mg "NoHall"
  e_NoAgent : ExT K mg "NoAgent"
  e_NoLock : ExT K mg "NoLock"
  e_NoHouse : ExT K mg "NoHouse"
  e_NoLetter : ExT K mg "NoLetter"
  e_Stopped : ExT K mg "Stopped"
  e_Waits : ExT K mg "Waits"
  e_Holds : ExT K mg "Holds"
  e_NotHeld : ExT K mg "NotHeld"
  e_Up : ExT K mg "Up"
  g_Table : mg "Table" = some (.ref (He.ga K "Table"))
  c_Table : Cls K (He.ga K "Table")
  k_Table : Mk K (He.ga K "Table") (He.ma K (He.ga K "Table") "__init__")
  n_owners : NoAttr K (He.ga K "Table") "owners"
  n_lines : NoAttr K (He.ga K "Table") "lines"
  n_times : NoAttr K (He.ga K "Table") "times"
  n_wants : NoAttr K (He.ga K "Table") "wants"
  n_rounds : NoAttr K (He.ga K "Table") "rounds"
  g_next_of : mg "next_of" = some (.ref (He.ga K "next_of"))
  f_next_of : DefAt K "next_of" "next_of" s_next_of (He.ga K "next_of")
  g_chain : mg "chain" = some (.ref (He.ga K "chain"))
  f_chain : DefAt K "chain" "chain" s_chain (He.ga K "chain")
  g_ring_of : mg "ring_of" = some (.ref (He.ga K "ring_of"))
  f_ring_of : DefAt K "ring_of" "ring_of" s_ring_of (He.ga K "ring_of")
  g_rings : mg "rings" = some (.ref (He.ga K "rings"))
  f_rings : DefAt K "rings" "rings" s_rings (He.ga K "rings")
  g_lightest : mg "lightest" = some (.ref (He.ga K "lightest"))
  f_lightest : DefAt K "lightest" "lightest" s_lightest (He.ga K "lightest")
  g_least : mg "least" = some (.ref (He.ga K "least"))
  f_least : DefAt K "least" "least" s_least (He.ga K "least")
  f_t_init : DefAt K "__init__" "Table.__init__" s_t_init (He.ma K (He.ga K "Table") "__init__")
  m_t_need_agent : Meth K (He.ga K "Table") "need_agent" (He.ma K (He.ga K "Table") "need_agent")
  f_t_need_agent : DefAt K "need_agent" "Table.need_agent" s_t_need_agent (He.ma K (He.ga K "Table") "need_agent")
  m_t_need_lock : Meth K (He.ga K "Table") "need_lock" (He.ma K (He.ga K "Table") "need_lock")
  f_t_need_lock : DefAt K "need_lock" "Table.need_lock" s_t_need_lock (He.ma K (He.ga K "Table") "need_lock")
  m_t_need_both : Meth K (He.ga K "Table") "need_both" (He.ma K (He.ga K "Table") "need_both")
  f_t_need_both : DefAt K "need_both" "Table.need_both" s_t_need_both (He.ma K (He.ga K "Table") "need_both")
  m_t_need_free_to : Meth K (He.ga K "Table") "need_free_to" (He.ma K (He.ga K "Table") "need_free_to")
  f_t_need_free_to : DefAt K "need_free_to" "Table.need_free_to" s_t_need_free_to (He.ma K (He.ga K "Table") "need_free_to")
  m_t_take : Meth K (He.ga K "Table") "take" (He.ma K (He.ga K "Table") "take")
  f_t_take : DefAt K "take" "Table.take" s_t_take (He.ma K (He.ga K "Table") "take")
  m_t_ask : Meth K (He.ga K "Table") "ask" (He.ma K (He.ga K "Table") "ask")
  f_t_ask : DefAt K "ask" "Table.ask" s_t_ask (He.ma K (He.ga K "Table") "ask")
  m_t_pass_on : Meth K (He.ga K "Table") "pass_on" (He.ma K (He.ga K "Table") "pass_on")
  f_t_pass_on : DefAt K "pass_on" "Table.pass_on" s_t_pass_on (He.ma K (He.ga K "Table") "pass_on")
  m_t_give : Meth K (He.ga K "Table") "give" (He.ma K (He.ga K "Table") "give")
  f_t_give : DefAt K "give" "Table.give" s_t_give (He.ma K (He.ga K "Table") "give")
  m_t_leave : Meth K (He.ga K "Table") "leave" (He.ma K (He.ga K "Table") "leave")
  f_t_leave : DefAt K "leave" "Table.leave" s_t_leave (He.ma K (He.ga K "Table") "leave")
  m_t_waits : Meth K (He.ga K "Table") "waits" (He.ma K (He.ga K "Table") "waits")
  f_t_waits : DefAt K "waits" "Table.waits" s_t_waits (He.ma K (He.ga K "Table") "waits")
  m_t_held : Meth K (He.ga K "Table") "held" (He.ma K (He.ga K "Table") "held")
  f_t_held : DefAt K "held" "Table.held" s_t_held (He.ma K (He.ga K "Table") "held")
  m_t_holder : Meth K (He.ga K "Table") "holder" (He.ma K (He.ga K "Table") "holder")
  f_t_holder : DefAt K "holder" "Table.holder" s_t_holder (He.ma K (He.ga K "Table") "holder")
  m_t_agents : Meth K (He.ga K "Table") "agents" (He.ma K (He.ga K "Table") "agents")
  f_t_agents : DefAt K "agents" "Table.agents" s_t_agents (He.ma K (He.ga K "Table") "agents")
  m_t_locks : Meth K (He.ga K "Table") "locks" (He.ma K (He.ga K "Table") "locks")
  f_t_locks : DefAt K "locks" "Table.locks" s_t_locks (He.ma K (He.ga K "Table") "locks")
  g_Lstart : mg "_law_start" = some (.ref (He.ga K "_law_start"))
  f_Lstart : DefAt K "_law_start" "_law_start" s_Lstart (He.ga K "_law_start")
  g_Ldrawn : mg "_law_drawn" = some (.ref (He.ga K "_law_drawn"))
  f_Ldrawn : DefAt K "_law_drawn" "_law_drawn" s_Ldrawn (He.ga K "_law_drawn")
  g_Lsame : mg "_law_same" = some (.ref (He.ga K "_law_same"))
  f_Lsame : DefAt K "_law_same" "_law_same" s_Lsame (He.ga K "_law_same")
  g_Ltable : mg "_law_table" = some (.ref (He.ga K "_law_table"))
  f_Ltable : DefAt K "_law_table" "_law_table" s_Ltable (He.ga K "_law_table")
  g_Lgot : mg "_law_got" = some (.ref (He.ga K "_law_got"))
  f_Lgot : DefAt K "_law_got" "_law_got" s_Lgot (He.ga K "_law_got")
  g_Lpassed : mg "_law_passed" = some (.ref (He.ga K "_law_passed"))
  f_Lpassed : DefAt K "_law_passed" "_law_passed" s_Lpassed (He.ga K "_law_passed")
  g_Lfault : mg "_law_fault" = some (.ref (He.ga K "_law_fault"))
  f_Lfault : DefAt K "_law_fault" "_law_fault" s_Lfault (He.ga K "_law_fault")
  g_Lask : mg "_law_ask" = some (.ref (He.ga K "_law_ask"))
  f_Lask : DefAt K "_law_ask" "_law_ask" s_Lask (He.ga K "_law_ask")
  g_Lgive : mg "_law_give" = some (.ref (He.ga K "_law_give"))
  f_Lgive : DefAt K "_law_give" "_law_give" s_Lgive (He.ga K "_law_give")
  g_Lheld : mg "_law_held" = some (.ref (He.ga K "_law_held"))
  f_Lheld : DefAt K "_law_held" "_law_held" s_Lheld (He.ga K "_law_held")
  g_Lleave : mg "_law_leave" = some (.ref (He.ga K "_law_leave"))
  f_Lleave : DefAt K "_law_leave" "_law_leave" s_Lleave (He.ga K "_law_leave")
  g_Lkind : mg "_law_kind" = some (.ref (He.ga K "_law_kind"))
  f_Lkind : DefAt K "_law_kind" "_law_kind" s_Lkind (He.ga K "_law_kind")
  g_Ldeed : mg "_law_deed" = some (.ref (He.ga K "_law_deed"))
  f_Ldeed : DefAt K "_law_deed" "_law_deed" s_Ldeed (He.ga K "_law_deed")
  g_Ldue : mg "_law_due" = some (.ref (He.ga K "_law_due"))
  f_Ldue : DefAt K "_law_due" "_law_due" s_Ldue (He.ga K "_law_due")
  g_Ldoes : mg "_law_does" = some (.ref (He.ga K "_law_does"))
  f_Ldoes : DefAt K "_law_does" "_law_does" s_Ldoes (He.ga K "_law_does")
  g_Lgrown : mg "_law_grown" = some (.ref (He.ga K "_law_grown"))
  f_Lgrown : DefAt K "_law_grown" "_law_grown" s_Lgrown (He.ga K "_law_grown")
  g_Lnext : mg "_law_next" = some (.ref (He.ga K "_law_next"))
  f_Lnext : DefAt K "_law_next" "_law_next" s_Lnext (He.ga K "_law_next")
  g_Lrings : mg "_law_rings" = some (.ref (He.ga K "_law_rings"))
  f_Lrings : DefAt K "_law_rings" "_law_rings" s_Lrings (He.ga K "_law_rings")
  g_Lcopy : mg "_law_copy" = some (.ref (He.ga K "_law_copy"))
  f_Lcopy : DefAt K "_law_copy" "_law_copy" s_Lcopy (He.ga K "_law_copy")
  g_Lleft : mg "_law_left" = some (.ref (He.ga K "_law_left"))
  f_Lleft : DefAt K "_law_left" "_law_left" s_Lleft (He.ga K "_law_left")
  g_Lweight : mg "_law_weight" = some (.ref (He.ga K "_law_weight"))
  f_Lweight : DefAt K "_law_weight" "_law_weight" s_Lweight (He.ga K "_law_weight")
  g_Lsets : mg "_law_sets" = some (.ref (He.ga K "_law_sets"))
  f_Lsets : DefAt K "_law_sets" "_law_sets" s_Lsets (He.ga K "_law_sets")
  g_law : mg "law" = some (.ref (He.ga K "law"))
  f_law : DefAt K "law" "law" s_law (He.ga K "law")
  z_ValueError : mg "ValueError" = none
  z_bool : mg "bool" = none
  z_dict : mg "dict" = none
  z_int : mg "int" = none
  z_isinstance : mg "isinstance" = none
  z_len : mg "len" = none
  z_list : mg "list" = none
  z_max : mg "max" = none
  z_min : mg "min" = none
  z_range : mg "range" = none
  z_sorted : mg "sorted" = none
  z_str : mg "str" = none
  z_sum : mg "sum" = none
  z_tuple : mg "tuple" = none
  i_MOST_AGENTS : ∃ t, mg "MOST_AGENTS" = some (.int 8 t)
  i_MOST_LOCKS : ∃ t, mg "MOST_LOCKS" = some (.int 12 t)
  wk : WdK K
theorem Txt.tb {K : PySem.W.Frag} {mg : Str → Option Value} (T : Txt K mg) : TbTxt K (tbC K) := ⟨T.c_Table, T.n_owners, T.n_lines, T.n_times, T.n_wants, T.n_rounds⟩
/-! ### the steps by themselves -/
local macro_rules | `(tactic| walk_at "sx1") => `(tactic| first
  | with_reducible refine stp ?_
  | with_reducible refine r_var rfl ?_)
local macro_rules | `(tactic| walk_at "sx") => `(tactic| repeat (walk_at "sx1"))

section
variable {P : Program} {w : World} {K : PySem.W.Frag} {mg : Str → Option Value} {base : Heap}
theorem sc_t_agents : FnScope ["self"] ["self"] (defScope s_t_agents) := ⟨rfl, rfl, rfl, by decide +kernel, rfl, by decide +kernel, by decide +kernel⟩
theorem ok_t_agents (TX : Txt K mg) : OkF P w K mg base 1 (He.ma K (He.ga K "Table") "agents") ["self"] (sp_t_agents K) := by
  refine okF TX.f_t_agents sc_t_agents (fun _ _ _ _ _ _ us hl => match us, hl with | [_], _ => rfl) (fun vs H Q E h => ?_) (fun cdv A outer s H vs Q E hr h => ?_)
  · obtain ⟨_, rfl, _⟩ := h
    rfl
  · obtain ⟨x, rfl, h⟩ := h
    refine ⟨_, (pss_one (ps_ret (pe_callB (k_len (K := K) rfl) (by rfl) TX.z_len (by decide +kernel) (pa_cons (k_fld (K := K) rfl (pv 0) rfl) pa_nil)))), ?_⟩
    refine r_st (σ' := [some x]) rfl ?_
    try dsimp only [cxOf]
    obtain ⟨A, T, rfl, hT, q⟩ := h
    walk_at "sx"
    refine r_wants TX.tb hT ?_
    walk_at "sx"
    exact r_lenWan hT q
theorem sc_t_need_lock : FnScope ["self", "lock"] ["self", "lock"] (defScope s_t_need_lock) := ⟨rfl, rfl, rfl, by decide +kernel, rfl, by decide +kernel, by decide +kernel⟩
theorem ok_t_need_lock (TX : Txt K mg) : OkF P w K mg base 1 (He.ma K (He.ga K "Table") "need_lock") ["self", "lock"] (sp_t_need_lock K) := by
  refine okF TX.f_t_need_lock sc_t_need_lock (fun _ _ _ _ _ _ us hl => match us, hl with | [_, _], _ => rfl) (fun vs H Q E h => ?_) (fun cdv A outer s H vs Q E hr h => ?_)
  · obtain ⟨_, _, rfl, _⟩ := h
    rfl
  · obtain ⟨x, y, rfl, h⟩ := h
    refine ⟨_, (pss_one (ps_if (pt_not (pt_chain op_le op_lt pe_int (pv 1) (pe_callB (k_len (K := K) rfl) (by rfl) TX.z_len (by decide +kernel) (pa_cons (k_fld (K := K) rfl (pv 0) rfl) pa_nil)))) (pss_one (ps_raise rfl (takes_of rfl rfl rfl rfl) (pmk_own PySem.F.excBase_ValueError TX.e_NoLock.ex TX.e_NoLock.g TX.e_NoLock.k (raises_own TX.e_NoLock.b TX.e_NoLock.t) rfl))) pss_nil)), ?_⟩
    refine r_st (σ' := [some x, some y]) rfl ?_
    try dsimp only [cxOf]
    obtain ⟨A, T, a, rfl, rfl, hT, h1, h2⟩ := h
    walk_at "sx"
    refine r_range (fun _ q => by walk_at "sx"; exact q) (fun _ q => by walk_at "sx"; exact r_owners TX.tb hT (by walk_at "sx"; exact r_lenOwn hT q)) ?_
    walk_at "sx"
    refine r_decN (fun g => ?_) (fun g => ?_)
    · exact h2 g
    · walk_at "sx"
      exact h1 g
theorem sc_t_holder : FnScope ["self", "lock"] ["self", "lock"] (defScope s_t_holder) := ⟨rfl, rfl, rfl, by decide +kernel, rfl, by decide +kernel, by decide +kernel⟩
theorem ok_t_holder (TX : Txt K mg) : OkF P w K mg base 2 (He.ma K (He.ga K "Table") "holder") ["self", "lock"] (sp_t_holder K) := by
  obtain ⟨⟨fd_t_need_lock, G_t_need_lock, b_t_need_lock⟩, k_t_need_lock⟩ := (ok_t_need_lock TX : OkF P w K mg base _ _ _ _)
  refine okF TX.f_t_holder sc_t_holder (fun _ _ _ _ _ _ us hl => match us, hl with | [_, _], _ => rfl) (fun vs H Q E h => ?_) (fun cdv A outer s H vs Q E hr h => ?_)
  · obtain ⟨_, _, rfl, _⟩ := h
    rfl
  · obtain ⟨x, y, rfl, h⟩ := h
    refine ⟨_, (pss_cons (ps_expr (pe_meth (pv 0) TX.c_Table TX.m_t_need_lock G_t_need_lock (hr.mono (by decide)) b_t_need_lock .nil pE (pa_cons (pv 1) pa_nil))) (pss_one (ps_ret (pe_ix (k_ixl (K := K) rfl) (k_fld (K := K) rfl (pv 0) rfl) (pv 1) (fun _ _ => rfl))))), ?_⟩
    refine r_st (σ' := [some x, some y]) rfl ?_
    try dsimp only [cxOf]
    obtain ⟨A, T, a, rfl, rfl, hT, h1, h2⟩ := h
    walk_at "sx"
    refine r_tmeth hT (by decide +kernel) ?_
    walk_at "sx"
    refine ⟨A, T, a, rfl, rfl, hT, fun g => ?_, h2⟩
    have q := h1 g
    obtain ⟨a, rfl, ha⟩ := Tb.isL_nat g
    walk_at "sx"
    refine r_owners TX.tb hT ?_
    walk_at "sx"
    exact r_ixOwn hT ha q
theorem sc_t_need_agent : FnScope ["self", "agent"] ["self", "agent"] (defScope s_t_need_agent) := ⟨rfl, rfl, rfl, by decide +kernel, rfl, by decide +kernel, by decide +kernel⟩
theorem ok_t_need_agent (TX : Txt K mg) : OkF P w K mg base 1 (He.ma K (He.ga K "Table") "need_agent") ["self", "agent"] (sp_t_need_agent K) := by
  refine okF TX.f_t_need_agent sc_t_need_agent (fun _ _ _ _ _ _ us hl => match us, hl with | [_, _], _ => rfl) (fun vs H Q E h => ?_) (fun cdv A outer s H vs Q E hr h => ?_)
  · obtain ⟨_, _, rfl, _⟩ := h
    rfl
  · obtain ⟨x, y, rfl, h⟩ := h
    refine ⟨_, (pss_one (ps_if (pt_not (pt_chain op_le op_lt pe_int (pv 1) (pe_callB (k_len (K := K) rfl) (by rfl) TX.z_len (by decide +kernel) (pa_cons (k_fld (K := K) rfl (pv 0) rfl) pa_nil)))) (pss_one (ps_raise rfl (takes_of rfl rfl rfl rfl) (pmk_own PySem.F.excBase_ValueError TX.e_NoAgent.ex TX.e_NoAgent.g TX.e_NoAgent.k (raises_own TX.e_NoAgent.b TX.e_NoAgent.t) rfl))) pss_nil)), ?_⟩
    refine r_st (σ' := [some x, some y]) rfl ?_
    try dsimp only [cxOf]
    obtain ⟨A, T, a, rfl, rfl, hT, h1, h2⟩ := h
    walk_at "sx"
    refine r_range (fun _ q => by walk_at "sx"; exact q) (fun _ q => by walk_at "sx"; exact r_wants TX.tb hT (by walk_at "sx"; exact r_lenWan hT q)) ?_
    walk_at "sx"
    refine r_decN (fun g => ?_) (fun g => ?_)
    · exact h2 g
    · walk_at "sx"
      exact h1 g
theorem sc_t_waits : FnScope ["self", "agent"] ["self", "agent"] (defScope s_t_waits) := ⟨rfl, rfl, rfl, by decide +kernel, rfl, by decide +kernel, by decide +kernel⟩
theorem ok_t_waits (TX : Txt K mg) : OkF P w K mg base 2 (He.ma K (He.ga K "Table") "waits") ["self", "agent"] (sp_t_waits K) := by
  obtain ⟨⟨fd_t_need_agent, G_t_need_agent, b_t_need_agent⟩, k_t_need_agent⟩ := (ok_t_need_agent TX : OkF P w K mg base _ _ _ _)
  refine okF TX.f_t_waits sc_t_waits (fun _ _ _ _ _ _ us hl => match us, hl with | [_, _], _ => rfl) (fun vs H Q E h => ?_) (fun cdv A outer s H vs Q E hr h => ?_)
  · obtain ⟨_, _, rfl, _⟩ := h
    rfl
  · obtain ⟨x, y, rfl, h⟩ := h
    refine ⟨_, (pss_cons (ps_expr (pe_meth (pv 0) TX.c_Table TX.m_t_need_agent G_t_need_agent (hr.mono (by decide)) b_t_need_agent .nil pE (pa_cons (pv 1) pa_nil))) (pss_one (ps_ret (pe_ix (k_ixl (K := K) rfl) (k_fld (K := K) rfl (pv 0) rfl) (pv 1) (fun _ _ => rfl))))), ?_⟩
    refine r_st (σ' := [some x, some y]) rfl ?_
    try dsimp only [cxOf]
    obtain ⟨A, T, a, rfl, rfl, hT, h1, h2⟩ := h
    walk_at "sx"
    refine r_tmeth hT (by decide +kernel) ?_
    walk_at "sx"
    refine ⟨A, T, a, rfl, rfl, hT, fun g => ?_, h2⟩
    have q := h1 g
    obtain ⟨a, rfl, ha⟩ := Tb.isA_nat g
    walk_at "sx"
    refine r_wants TX.tb hT ?_
    walk_at "sx"
    exact r_ixWan hT ha q
theorem sc_next_of : FnScope ["table", "agent", "lock"] ["table", "agent"] (defScope s_next_of) := ⟨rfl, rfl, rfl, by decide +kernel, rfl, by decide +kernel, by decide +kernel⟩
theorem ok_next_of (TX : Txt K mg) : OkF P w K mg base 3 (He.ga K "next_of") ["table", "agent"] (sp_next_of K) := by
  obtain ⟨⟨fd_t_holder, G_t_holder, b_t_holder⟩, k_t_holder⟩ := (ok_t_holder TX : OkF P w K mg base _ _ _ _)
  obtain ⟨⟨fd_t_waits, G_t_waits, b_t_waits⟩, k_t_waits⟩ := (ok_t_waits TX : OkF P w K mg base _ _ _ _)
  refine okF TX.f_next_of sc_next_of (fun _ _ _ _ _ _ us hl => match us, hl with | [_, _], _ => rfl) (fun vs H Q E h => ?_) (fun cdv A outer s H vs Q E hr h => ?_)
  · obtain ⟨_, _, rfl, _⟩ := h
    rfl
  · obtain ⟨x, y, rfl, h⟩ := h
    refine ⟨_, (pss_cons (ps_set (i := 2) sc_next_of.nd rfl (Or.inl rfl) (pe_meth (pv 0) TX.c_Table TX.m_t_waits G_t_waits (hr.mono (by decide)) b_t_waits .nil pE (pa_cons (pv 1) pa_nil))) (pss_one (ps_ret (pe_ifExp (pt_cmpR (op_isN) (pv 2) pe_non (nomark _)) pe_non (pe_meth (pv 0) TX.c_Table TX.m_t_holder G_t_holder (hr.mono (by decide)) b_t_holder .nil pE (pa_cons (pv 2) pa_nil)))))), ?_⟩
    refine r_st (σ' := [some x, some y, none]) rfl ?_
    try dsimp only [cxOf]
    obtain ⟨A, T, a, rfl, rfl, hT, hW, ha, q⟩ := h
    walk_at "sx"
    refine r_tmeth hT (by decide +kernel) ?_
    walk_at "sx"
    refine ⟨A, T, (a : Int), rfl, rfl, hT, fun _ => ?_, fun z => absurd (Tb.isA_of ha) z⟩
    rw [Int.toNat_natCast]
    walk_at "sx"
    refine ⟨rfl, ?_⟩
    walk_at "sx"
    unfold Tb.nx at q
    cases hw : T.wa a with
    | none =>
      rw [hw] at q
      refine r_dec (fun _ => ?_) (fun g => absurd rfl g)
      walk_at "sx"
      exact q
    | some l =>
      rw [hw] at q
      refine r_dec (fun g => by cases g) (fun _ => ?_)
      walk_at "sx"
      refine r_tmeth hT (by decide +kernel) ?_
      walk_at "sx"
      refine ⟨A, T, (l : Int), rfl, rfl, hT, fun _ => ?_, fun z => absurd (Tb.isL_of (hW.wl a l hw).1) z⟩
      rw [Int.toNat_natCast]
      exact q
theorem sc_chain : FnScope ["table", "agent", "found", "here"] ["table", "agent"] (defScope s_chain) := ⟨rfl, rfl, rfl, by decide +kernel, rfl, by decide +kernel, by decide +kernel⟩
theorem ok_chain (TX : Txt K mg) : OkF P w K mg base 4 (He.ga K "chain") ["table", "agent"] (sp_chain K) := by
  obtain ⟨⟨fd_next_of, G_next_of, b_next_of⟩, k_next_of⟩ := (ok_next_of TX : OkF P w K mg base _ _ _ _)
  refine okF TX.f_chain sc_chain (fun _ _ _ _ _ _ us hl => match us, hl with | [_, _], _ => rfl) (fun vs H Q E h => ?_) (fun cdv A outer s H vs Q E hr h => ?_)
  · obtain ⟨_, _, rfl, _⟩ := h
    rfl
  · obtain ⟨x, y, rfl, h⟩ := h
    refine ⟨_, (pss_cons (ps_set (i := 2) sc_chain.nd rfl (Or.inl rfl) (pe_lst (pa_cons (pv 1) pa_nil))) (pss_cons (ps_set (i := 3) sc_chain.nd rfl (Or.inl rfl) (pe_call G_next_of (hr.mono (by decide)) (by rfl) TX.g_next_of k_next_of b_next_of .nil pE (pa_cons (pv 0) (pa_cons (pv 1) pa_nil)))) (pss_cons (ps_while pOwn (PW.pt (pw_and (pt_cmpR (op_notN) (pv 3) pe_non (nomark _)) (pw_and1 (pt_cmpR (k_notInS (K := K) rfl) (pv 3) (pv 2) (by with_unfolding_all rfl))))) (pss_cons (ps_expr (pe_bm PySem.F.plainAttrs_list PySem.F.slot_list_append PySem.F.type_list_append mt_append (pv 2) (pa_cons (pv 3) pa_nil))) (pss_one (ps_set (i := 3) sc_chain.nd rfl (Or.inl rfl) (pe_call G_next_of (hr.mono (by decide)) (by rfl) TX.g_next_of k_next_of b_next_of .nil pE (pa_cons (pv 0) (pa_cons (pv 3) pa_nil))))))) (pss_one (ps_ret (pv 2)))))), ?_⟩
    refine r_st (σ' := [some x, some y, none, none]) rfl ?_
    try dsimp only [cxOf]
    obtain ⟨A, T, a, rfl, rfl, hT, hW, ha, q⟩ := h
    walk_at "sx"
    refine r_newL (by show 1 ≤ 1000; decide) (fun p H1 hp e1 f1 => ?_)
    walk_at "sx"
    refine ⟨A, T, a, rfl, rfl, hT.fr0 f1, hW, ha, ?_⟩
    walk_at "sx"
    refine ⟨fun m σ' H' => ∃ (f : List Nat) (h : Option Nat), m = T.n + 1 - f.length ∧ σ' = [some (.ref A.p), some (.int (a : Int)), some (.ref p), some (oV h)] ∧ Fr No H H' ∧ H' p = some (.lst (f.map nV)) ∧ T.Wk f h (T.way a), ⟨_, [a], T.nx a, rfl, rfl, f1, e1, Tb.Wk.init hW ha⟩, ?_⟩
    rintro m σ' H' ⟨f, h, rfl, rfl, f2, e2, w⟩
    have hl := w.len
    have h8 := hT.sz.n8
    walk_at "sx"
    refine ⟨rfl, ?_⟩
    walk_at "sx"
    cases h with
    | none =>
      refine r_decN (fun g => absurd rfl g) (fun _ => ?_)
      walk_at "sx"
      have e : T.chainT a = f := by unfold Tb.chainT; rw [w.stop0]
      exact q p H' hp (by rw [e]; exact e2) f2
    | some b =>
      refine r_decN (fun _ => ?_) (fun g => by cases g)
      walk_at "sx"
      refine r_notInL e2 ?_
      walk_at "sx"
      refine r_decN (fun hb => ?_) (fun hb => ?_)
      · obtain ⟨w', hl'⟩ := w.step hW hb
        refine ⟨fun σ2 H2 => ∃ m', m' < T.n + 1 - f.length ∧ ∃ (f' : List Nat) (h' : Option Nat), m' = T.n + 1 - f'.length ∧ σ2 = [some (.ref A.p), some (.int (a : Int)), some (.ref p), some (oV h')] ∧ Fr No H H2 ∧ H2 p = some (.lst (f'.map nV)) ∧ T.Wk f' h' (T.way a), fun σ2 H2 z => z, ?_⟩
        walk_at "sx"
        refine r_tyL e2 ?_
        walk_at "sx"
        refine r_append e2 (by rw [List.length_map]; omega) ?_
        have f3 : Fr No H (upd H' p (.lst (f.map nV ++ [V.int (b : Int)]))) := f2.mut hp
        walk_at "sx"
        refine ⟨A, T, b, rfl, rfl, hT.fr0 f3, hW, w.hl b rfl, ?_⟩
        walk_at "sx"
        refine ⟨_, ?_, f ++ [b], T.nx b, rfl, rfl, f3, ?_, w'⟩
        · rw [List.length_append, List.length_singleton]; omega
        · rw [upd_same, List.map_append]; rfl
      · walk_at "sx"
        have e : T.chainT a = f := by unfold Tb.chainT; rw [w.stop1 hb]
        exact q p H' hp (by rw [e]; exact e2) f2
theorem sc_ring_of : FnScope ["table", "agent", "found"] ["table", "agent"] (defScope s_ring_of) := ⟨rfl, rfl, rfl, by decide +kernel, rfl, by decide +kernel, by decide +kernel⟩
theorem ok_ring_of (TX : Txt K mg) : OkF P w K mg base 5 (He.ga K "ring_of") ["table", "agent"] (sp_ring_of K) := by
  obtain ⟨⟨fd_next_of, G_next_of, b_next_of⟩, k_next_of⟩ := (ok_next_of TX : OkF P w K mg base _ _ _ _)
  obtain ⟨⟨fd_chain, G_chain, b_chain⟩, k_chain⟩ := (ok_chain TX : OkF P w K mg base _ _ _ _)
  refine okF TX.f_ring_of sc_ring_of (fun _ _ _ _ _ _ us hl => match us, hl with | [_, _], _ => rfl) (fun vs H Q E h => ?_) (fun cdv A outer s H vs Q E hr h => ?_)
  · obtain ⟨_, _, rfl, _⟩ := h
    rfl
  · obtain ⟨x, y, rfl, h⟩ := h
    refine ⟨_, (pss_cons (ps_set (i := 2) sc_ring_of.nd rfl (Or.inl rfl) (pe_call G_chain (hr.mono (by decide)) (by rfl) TX.g_chain k_chain b_chain .nil pE (pa_cons (pv 0) (pa_cons (pv 1) pa_nil)))) (pss_cons (ps_if (PW.pt (pw_or (pt_cmpR (op_ne) (pe_call G_next_of (hr.mono (by decide)) (by rfl) TX.g_next_of k_next_of b_next_of .nil pE (pa_cons (pv 0) (pa_cons (pe_ix (k_ixl (K := K) rfl) (pv 2) (pe_un un_neg pe_int) (fun _ _ => rfl)) pa_nil))) (pv 1) (nomark _)) (pw_or1 (pt_cmpR (op_ne) (pe_callB (k_max (K := K) rfl rfl) (by rfl) TX.z_max (by decide +kernel) (pa_cons (pv 2) pa_nil)) (pv 1) (nomark _))))) (pss_one (ps_ret pe_non)) pss_nil) (pss_one (ps_ret (pe_callTy (k_tupOf (K := K) rfl) (by rfl) TX.z_tuple (by decide +kernel) (pa_cons (pv 2) pa_nil)))))), ?_⟩
    refine r_st (σ' := [some x, some y, none]) rfl ?_
    try dsimp only [cxOf]
    obtain ⟨A, T, a, rfl, rfl, hT, hW, ha, q0, q1⟩ := h
    walk_at "sx"
    refine ⟨A, T, a, rfl, rfl, hT, hW, ha, fun p H1 hp e1 f1 => ?_⟩
    obtain ⟨w1, w2, i, z, w3, w4⟩ := Tb.way_ok hW ha
    have hz : z < T.n := w2 z (by rw [w3]; simp)
    have e1' : H1 p = some (.lst (i.map nV ++ [V.int (z : Int)])) := by
      rw [e1]
      show some (HO.lst ((T.way a).1.map nV)) = _
      rw [w3, List.map_append]
      rfl
    have hT1 := hT.fr0 f1
    walk_at "sx"
    refine r_un ?_
    walk_at "sx"
    refine r_rU ?_
    refine r_ixLast e1' ?_
    walk_at "sx"
    refine ⟨A, T, z, rfl, rfl, hT1, hW, hz, ?_⟩
    rw [w4]
    walk_at "sx"
    refine r_ne (scal_oo _ _) ?_
    walk_at "sx"
    refine r_decN (fun g => ?_) (fun g => ?_)
    · walk_at "sx"
      refine q0 H1 ?_ f1
      unfold Tb.ringAt
      rw [if_neg (fun k => g ((oV_int _ _).mpr k.1))]
    have g' := (oV_int _ _).mp g
    walk_at "sx"
    refine r_maxN (xs := T.chainT a) e1 (by unfold Tb.chainT; rw [w3]; simp) ?_
    walk_at "sx"
    refine r_ne rfl ?_
    walk_at "sx"
    refine r_decN (fun g2 => ?_) (fun g2 => ?_)
    · walk_at "sx"
      refine q0 H1 ?_ f1
      unfold Tb.ringAt
      rw [if_neg (fun k => g2 (by show V.int (Tb.mx (T.way a).1 : Int) = _; rw [k.2]))]
    · walk_at "sx"
      refine r_tupN e1 (fun t H2 ht e2 f2 => ?_)
      refine q1 (T.chainT a) t H2 ?_ (f1.fresh ht) e2 (f1.trans f2)
      unfold Tb.ringAt
      have g2' : Tb.mx (T.way a).1 = a := by
        have := V.int.inj g2
        exact Int.ofNat.inj this
      rw [if_pos ⟨g', g2'⟩]
      rfl
theorem sc_rings : FnScope ["table", "found", "agent", "ring"] ["table"] (defScope s_rings) := ⟨rfl, rfl, rfl, by decide +kernel, rfl, by decide +kernel, by decide +kernel⟩
theorem ok_rings (TX : Txt K mg) : OkF P w K mg base 6 (He.ga K "rings") ["table"] (sp_rings K) := by
  obtain ⟨⟨fd_t_agents, G_t_agents, b_t_agents⟩, k_t_agents⟩ := (ok_t_agents TX : OkF P w K mg base _ _ _ _)
  obtain ⟨⟨fd_ring_of, G_ring_of, b_ring_of⟩, k_ring_of⟩ := (ok_ring_of TX : OkF P w K mg base _ _ _ _)
  refine okF TX.f_rings sc_rings (fun _ _ _ _ _ _ us hl => match us, hl with | [_], _ => rfl) (fun vs H Q E h => ?_) (fun cdv A outer s H vs Q E hr h => ?_)
  · obtain ⟨_, rfl, _⟩ := h
    rfl
  · obtain ⟨x, rfl, h⟩ := h
    refine ⟨_, (pss_cons (ps_setLc (i := 1) (own := [("agent", 2)]) (g := gName 2) rfl sc_rings.nd rfl rfl (sw_true rfl rfl rfl (by decide +kernel)) (pi_range1 (by rfl) TX.z_range (pa_cons (pe_meth0 (pv 0) TX.c_Table TX.m_t_agents G_t_agents (hr.mono (by decide)) b_t_agents .nil pE) pa_nil)) (blkOk_by (N := ["table", "found", "agent", "ring"]) (sc := defScope s_rings) (by decide +kernel)) (fun _ _ _ _ _ => pg_name (i := 2) sc_rings.nd rfl (Or.inl rfl)) (fun _ _ _ _ _ => by exact pts_nil) (fun _ _ _ _ _ => by exact (pe_call G_ring_of (hr.mono (by decide)) (by rfl) TX.g_ring_of k_ring_of b_ring_of .nil passL (pa_cons (pv 0) (pa_cons (pv 2) pa_nil))))) (pss_one (ps_ret (pe_lc (own := [("ring", 3)]) (g := gName 3) rfl sc_rings.nd (k_listI (K := K) rfl (pv 1)) (blkOk_by (N := ["table", "found", "agent", "ring"]) (sc := defScope s_rings) (by decide +kernel)) (fun _ _ _ _ _ => pg_name (i := 3) sc_rings.nd rfl (Or.inl rfl)) (fun _ _ _ _ _ => by exact (pts_one (pt_cmpR (op_notN) (pv 3) pe_non (nomark _)))) (fun _ _ _ _ _ => by exact (pv 3)))))), ?_⟩
    refine r_st (σ' := [some x, none, none, none]) rfl ?_
    try dsimp only [cxOf]
    obtain ⟨A, T, rfl, hT, hW, q⟩ := h
    walk_at "sx"
    refine r_lcR (n := T.n) (fun _ => true) (fun a => match T.ringAt a with | none => .none | some r => ringD r) (by have := hT.sz.n8; omega) (fun Q q => by walk_at "sx"; refine r_tmeth hT (by decide +kernel) ?_; walk_at "sx"; exact ⟨A, T, rfl, hT, q⟩) (fun _ => rfl) (fun i H' hi f => tells_yes) (fun i H' hi _ f Q q => ?_) (fun p1 H1 hp1 hl1 f1 => ?_)
    · walk_at "sx"
      refine ⟨A, T, i, rfl, rfl, hT.fr0 f, hW, hi, fun H2 e f2 => ?_, fun r p H2 e hp e2 f2 => ?_⟩
      · refine q _ H2 f2 ?_
        rw [e]
        exact .non
      · refine q _ H2 f2 ?_
        rw [e]
        exact .tup e2 (td_nats H2 r)
    rw [turns_all] at hl1
    obtain ⟨vs, e1, a1⟩ := hl1
    walk_at "sx"
    have hvl : vs.length = T.n := by rw [a1.len, List.length_map, List.length_range]
    have vat : ∀ i v, vs[i]? = some v → i < T.n ∧ Td H1 v (match T.ringAt i with | none => .none | some r => ringD r) := fun i v hv => by
      have hi : i < T.n := by rw [← hvl]; exact (List.getElem?_eq_some_iff.mp hv).1
      obtain ⟨u, e2, t⟩ := a1.at (i := i) (d := match T.ringAt i with | none => .none | some r => ringD r) (by rw [List.getElem?_map, List.getElem?_range hi]; rfl)
      rw [hv] at e2
      cases e2
      exact ⟨hi, t⟩
    refine r_lcL (a := p1) (xs := vs) (fun i => (T.ringAt i).isSome) (fun i => match T.ringAt i with | none => .none | some r => ringD r) (by rw [hvl]; have := hT.sz.n8; omega) (fun Q q => by walk_at "sx"; exact q) e1 (fun _ => rfl) (fun i v H' hv f Q q => ?_) (fun i v H' hv hf f Q q => ?_) (fun p2 H2 hp2 hl2 f2 => ?_)
    · obtain ⟨hi, t⟩ := vat i v hv
      walk_at "sx"
      refine ⟨rfl, ?_⟩
      walk_at "sx"
      have e : (!decide (v = V.non)) = (T.ringAt i).isSome := by
        cases qr : T.ringAt i with
        | none => rw [qr] at t; cases t; rfl
        | some r => rw [qr] at t; cases t; rfl
      rw [e]
      exact q H' Fr.refl
    · obtain ⟨hi, t⟩ := vat i v hv
      walk_at "sx"
      exact q _ H' Fr.refl (t.fr f)
    · rw [hvl] at hl2
      have e : turns (fun i => (T.ringAt i).isSome) (fun i => match T.ringAt i with | none => .none | some r => ringD r) T.n = T.ringsT.map ringD := by
        unfold turns Tb.ringsT
        exact some_map (List.range T.n) T.ringAt
      rw [e] at hl2
      exact q p2 H2 (f1.fresh hp2) hl2 (f1.trans f2)
theorem sc_t_held : FnScope ["self", "agent", "lock"] ["self", "agent"] (defScope s_t_held) := ⟨rfl, rfl, rfl, by decide +kernel, rfl, by decide +kernel, by decide +kernel⟩
theorem ok_t_held (TX : Txt K mg) : OkF P w K mg base 2 (He.ma K (He.ga K "Table") "held") ["self", "agent"] (sp_t_held K) := by
  obtain ⟨⟨fd_t_need_agent, G_t_need_agent, b_t_need_agent⟩, k_t_need_agent⟩ := (ok_t_need_agent TX : OkF P w K mg base _ _ _ _)
  refine okF TX.f_t_held sc_t_held (fun _ _ _ _ _ _ us hl => match us, hl with | [_, _], _ => rfl) (fun vs H Q E h => ?_) (fun cdv A outer s H vs Q E hr h => ?_)
  · obtain ⟨_, _, rfl, _⟩ := h
    rfl
  · obtain ⟨x, y, rfl, h⟩ := h
    refine ⟨_, (pss_cons (ps_expr (pe_meth (pv 0) TX.c_Table TX.m_t_need_agent G_t_need_agent (hr.mono (by decide)) b_t_need_agent .nil pE (pa_cons (pv 1) pa_nil))) (pss_one (ps_ret (pe_lc (own := [("lock", 2)]) (g := gName 2) rfl sc_t_held.nd (pi_range1 (by rfl) TX.z_range (pa_cons (pe_callB (k_len (K := K) rfl) (by rfl) TX.z_len (by decide +kernel) (pa_cons (k_fld (K := K) rfl (pv 0) rfl) pa_nil)) pa_nil)) (blkOk_by (N := ["self", "agent", "lock"]) (sc := defScope s_t_held) (by decide +kernel)) (fun _ _ _ _ _ => pg_name (i := 2) sc_t_held.nd rfl (Or.inl rfl)) (fun _ _ _ _ _ => by exact (pts_one (pt_cmpR (op_eq) (pe_ix (k_ixl (K := K) rfl) (k_fld (K := K) rfl (pv 0) rfl) (pv 2) (fun _ _ => rfl)) (pv 1) (nomark _)))) (fun _ _ _ _ _ => by exact (pv 2)))))), ?_⟩
    refine r_st (σ' := [some x, some y, none]) rfl ?_
    try dsimp only [cxOf]
    obtain ⟨A, T, a, rfl, rfl, hT, h1, h2⟩ := h
    walk_at "sx"
    refine r_tmeth hT (by decide +kernel) ?_
    walk_at "sx"
    refine ⟨A, T, a, rfl, rfl, hT, fun g => ?_, h2⟩
    have q := h1 g
    obtain ⟨a, rfl, ha⟩ := Tb.isA_nat g
    walk_at "sx"
    refine r_lcR (n := T.m) (fun l => decide (T.ow l = some a)) (fun l => .int (l : Int)) (by have := hT.sz.m12; omega) (fun Q q => by walk_at "sx"; refine r_owners TX.tb hT ?_; walk_at "sx"; exact r_lenOwn hT q) (fun _ => rfl) (fun i H' hi f Q q => ?_) (fun i H' hi _ f Q q => ?_) (fun p H' hp hl f => ?_)
    · walk_at "sx"
      refine r_owners TX.tb (hT.fr0 f) ?_
      walk_at "sx"
      refine r_ixOwn (hT.fr0 f) hi ?_
      walk_at "sx"
      refine r_eq (scal_oo _ _) ?_
      walk_at "sx"
      have e : decide (oV (T.ow i) = V.int (a : Int)) = decide (T.ow i = some a) := by rw [decide_eq_decide]; exact oV_int _ _
      rw [e]
      exact q H' Fr.refl
    · walk_at "sx"
      exact q _ H' Fr.refl (.int _)
    · refine q p H' hp ?_ f
      have e : turns (fun l => decide (T.ow l = some a)) (fun l => PyData.int (l : Int)) T.m = ((T.held a).map fun l : Nat => (l : Int)).map PyData.int := by
        unfold turns Tb.held
        rw [List.map_map]
        rfl
      rw [e] at hl
      have := hl.ints
      rw [List.map_map] at this
      exact this
theorem sc_t_take : FnScope ["self", "agent", "lock"] ["self", "agent", "lock"] (defScope s_t_take) := ⟨rfl, rfl, rfl, by decide +kernel, rfl, by decide +kernel, by decide +kernel⟩
theorem ok_t_take (TX : Txt K mg) : OkF P w K mg base 1 (He.ma K (He.ga K "Table") "take") ["self", "agent", "lock"] (sp_t_take K) := by
  refine okF TX.f_t_take sc_t_take (fun _ _ _ _ _ _ us hl => match us, hl with | [_, _, _], _ => rfl) (fun vs H Q E h => ?_) (fun cdv A outer s H vs Q E hr h => ?_)
  · obtain ⟨_, _, _, rfl, _⟩ := h
    rfl
  · obtain ⟨x, y, z, rfl, h⟩ := h
    refine ⟨_, (pss_cons (ps_asg (pv 1) (pg_sub (k_fld (K := K) rfl (pv 0) rfl) (pv 2) set_list)) (pss_one (ps_asg (pe_op op_add (pe_ix (k_ixl (K := K) rfl) (k_fld (K := K) rfl (pv 0) rfl) (pv 2) (fun _ _ => rfl)) pe_int) (pg_sub (k_fld (K := K) rfl (pv 0) rfl) (pv 2) set_list)))), ?_⟩
    refine r_st (σ' := [some x, some y, some z]) rfl ?_
    try dsimp only [cxOf]
    obtain ⟨A, T, a, l, rfl, rfl, rfl, hT, hl, h⟩ := h
    walk_at "sx"
    refine r_owners TX.tb hT ?_
    walk_at "sx"
    refine r_setOwn hT hl (some a) (fun H1 hT1 f1 => ?_)
    have hl1 : l < ({ T with own := T.own.set l (some a) } : Tb).m := by show l < (T.own.set l (some a)).length; rw [List.length_set]; exact hl
    walk_at "sx"
    refine r_times TX.tb hT1 ?_
    walk_at "sx"
    refine r_ixTim hT1 hl1 ?_
    walk_at "sx"
    refine r_times TX.tb hT1 ?_
    walk_at "sx"
    exact r_setTim hT1 hl1 (T.ti l + 1) (fun H2 hT2 f2 => h H2 hT2 (f1.trans f2))
theorem sc_t_pass_on : FnScope ["self", "lock", "agent"] ["self", "lock"] (defScope s_t_pass_on) := ⟨rfl, rfl, rfl, by decide +kernel, rfl, by decide +kernel, by decide +kernel⟩
theorem ok_t_pass_on (TX : Txt K mg) : OkF P w K mg base 2 (He.ma K (He.ga K "Table") "pass_on") ["self", "lock"] (sp_t_pass_on K) := by
  obtain ⟨⟨fd_t_take, G_t_take, b_t_take⟩, k_t_take⟩ := (ok_t_take TX : OkF P w K mg base _ _ _ _)
  refine okF TX.f_t_pass_on sc_t_pass_on (fun _ _ _ _ _ _ us hl => match us, hl with | [_, _], _ => rfl) (fun vs H Q E h => ?_) (fun cdv A outer s H vs Q E hr h => ?_)
  · obtain ⟨_, _, rfl, _⟩ := h
    rfl
  · obtain ⟨x, y, rfl, h⟩ := h
    refine ⟨_, (pss_cons (ps_asg pe_non (pg_sub (k_fld (K := K) rfl (pv 0) rfl) (pv 1) set_list)) (pss_cons (ps_if (pt_cmpR (k_eqD (K := K) rfl hr.units) (pe_ix (k_ixl (K := K) rfl) (k_fld (K := K) rfl (pv 0) rfl) (pv 1) (fun _ _ => rfl)) (pe_lst pa_nil) (nomark _)) (pss_one (ps_ret pe_non)) pss_nil) (pss_cons (ps_set (i := 2) sc_t_pass_on.nd rfl (Or.inl rfl) (pe_bm PySem.F.plainAttrs_list PySem.F.slot_list_pop PySem.F.type_list_pop mt_popAt (pe_ix (k_ixl (K := K) rfl) (k_fld (K := K) rfl (pv 0) rfl) (pv 1) (fun _ _ => rfl)) (pa_cons pe_int pa_nil))) (pss_cons (ps_asg pe_non (pg_sub (k_fld (K := K) rfl (pv 0) rfl) (pv 2) set_list)) (pss_cons (ps_expr (pe_meth (pv 0) TX.c_Table TX.m_t_take G_t_take (hr.mono (by decide)) b_t_take .nil pE (pa_cons (pv 2) (pa_cons (pv 1) pa_nil)))) (pss_one (ps_ret (pv 2)))))))), ?_⟩
    refine r_st (σ' := [some x, some y, none]) rfl ?_
    try dsimp only [cxOf]
    obtain ⟨A, T, l, rfl, rfl, hT, hl, hb, h⟩ := h
    walk_at "sx"
    refine r_owners TX.tb hT ?_
    walk_at "sx"
    refine r_setOwn hT hl none (fun H1 hT1 f1 => ?_)
    have hl1 : l < (T.free l).m := by show l < (T.own.set l none).length; rw [List.length_set]; exact hl
    walk_at "sx"
    refine r_lines TX.tb hT1 ?_
    walk_at "sx"
    refine r_ixLin hT1 hl1 (fun b eb hb1 => ?_)
    walk_at "sx"
    refine r_newL (Nat.zero_le _) (fun p H2 hp e f2 => ?_)
    have hT2 := hT1.fr0 f2
    refine r_eqNil (nats_dp (hT2.each _ _ eb)) (nats_cmp _) e ?_
    walk_at "sx"
    refine r_dec (fun g => ?_) (fun g => ?_)
    · have e0 : T.ln l = [] := nats_nil.mp g
      walk_at "sx"
      have e1 : T.pass l = T.free l := by unfold Tb.pass; rw [e0]
      have e2 : T.heir l = none := by unfold Tb.heir; rw [e0]; rfl
      have := h H2 (by rw [e1]; exact hT2) (f1.trans f2.up)
      rw [e2] at this
      exact this
    obtain ⟨x, r, e0⟩ : ∃ x r, T.ln l = x :: r := by
      cases q : T.ln l with
      | nil => exact absurd (nats_nil.mpr (show (T.free l).ln l = [] from q)) g
      | cons x r => exact ⟨x, r, rfl⟩
    have hx : x < T.n := hb x (by rw [e0]; exact List.mem_cons_self)
    walk_at "sx"
    refine r_lines TX.tb hT2 ?_
    walk_at "sx"
    refine r_ixLin hT2 hl1 (fun b' eb' hb2 => r_tyL hb2 ?_)
    walk_at "sx"
    refine r_popLine hT2 eb' e0 (fun H3 hT3 f3 => ?_)
    walk_at "sx"
    refine r_wants TX.tb hT3 ?_
    walk_at "sx"
    refine r_setWan hT3 hx none (fun H4 hT4 f4 => ?_)
    walk_at "sx"
    refine r_tmeth hT4 (by decide +kernel) ?_
    walk_at "sx"
    refine ⟨A, ((T.free l).line l r).stop x, x, l, rfl, rfl, rfl, hT4, hl1, fun H5 hT5 f5 => ?_⟩
    walk_at "sx"
    have e1 : T.pass l = (((T.free l).line l r).stop x).take x l := by unfold Tb.pass; rw [e0]
    have e2 : T.heir l = some x := by unfold Tb.heir; rw [e0]; rfl
    have := h H5 (by rw [e1]; exact hT5) ((((f1.trans f2.up).trans f3).trans f4).trans f5)
    rw [e2] at this
    exact this
theorem sc_t_leave : FnScope ["self", "agent", "lock"] ["self", "agent"] (defScope s_t_leave) := ⟨rfl, rfl, rfl, by decide +kernel, rfl, by decide +kernel, by decide +kernel⟩
theorem ok_t_leave (TX : Txt K mg) : OkF P w K mg base 3 (He.ma K (He.ga K "Table") "leave") ["self", "agent"] (sp_t_leave K) := by
  obtain ⟨⟨fd_t_held, G_t_held, b_t_held⟩, k_t_held⟩ := (ok_t_held TX : OkF P w K mg base _ _ _ _)
  obtain ⟨⟨fd_t_pass_on, G_t_pass_on, b_t_pass_on⟩, k_t_pass_on⟩ := (ok_t_pass_on TX : OkF P w K mg base _ _ _ _)
  obtain ⟨⟨fd_t_need_agent, G_t_need_agent, b_t_need_agent⟩, k_t_need_agent⟩ := (ok_t_need_agent TX : OkF P w K mg base _ _ _ _)
  refine okF TX.f_t_leave sc_t_leave (fun _ _ _ _ _ _ us hl => match us, hl with | [_, _], _ => rfl) (fun vs H Q E h => ?_) (fun cdv A outer s H vs Q E hr h => ?_)
  · obtain ⟨_, _, rfl, _⟩ := h
    rfl
  · obtain ⟨x, y, rfl, h⟩ := h
    refine ⟨_, (pss_cons (ps_expr (pe_meth (pv 0) TX.c_Table TX.m_t_need_agent G_t_need_agent (hr.mono (by decide)) b_t_need_agent .nil pE (pa_cons (pv 1) pa_nil))) (pss_cons (ps_if (pt_cmpR (op_notN) (pe_ix (k_ixl (K := K) rfl) (k_fld (K := K) rfl (pv 0) rfl) (pv 1) (fun _ _ => rfl)) pe_non (nomark _)) (pss_cons (ps_expr (pe_bm PySem.F.plainAttrs_list PySem.F.slot_list_remove PySem.F.type_list_remove mt_remove (pe_ix (k_ixl (K := K) rfl) (k_fld (K := K) rfl (pv 0) rfl) (pe_ix (k_ixl (K := K) rfl) (k_fld (K := K) rfl (pv 0) rfl) (pv 1) (fun _ _ => rfl)) (fun _ _ => rfl)) (pa_cons (pv 1) pa_nil))) (pss_one (ps_asg pe_non (pg_sub (k_fld (K := K) rfl (pv 0) rfl) (pv 1) set_list)))) pss_nil) (pss_one (ps_ret (pe_lc (own := [("lock", 2)]) (g := gName 2) rfl sc_t_leave.nd (k_listI (K := K) rfl (pe_meth (pv 0) TX.c_Table TX.m_t_held G_t_held (hr.mono (by decide)) b_t_held .nil pE (pa_cons (pv 1) pa_nil))) (blkOk_by (N := ["self", "agent", "lock"]) (sc := defScope s_t_leave) (by decide +kernel)) (fun _ _ _ _ _ => pg_name (i := 2) sc_t_leave.nd rfl (Or.inl rfl)) (fun _ _ _ _ _ => by exact pts_nil) (fun _ _ _ _ _ => by exact (pe_tup (pa_cons (pv 2) (pa_cons (pe_meth (pv 0) TX.c_Table TX.m_t_pass_on G_t_pass_on (hr.mono (by decide)) b_t_pass_on .nil passL (pa_cons (pv 2) pa_nil)) pa_nil))))))))), ?_⟩
    refine r_st (σ' := [some x, some y, none]) rfl ?_
    try dsimp only [cxOf]
    obtain ⟨A, T, a, rfl, rfl, hT, hW, he, ho⟩ := h
    walk_at "sx"
    refine r_tmeth hT (by decide +kernel) ?_
    walk_at "sx"
    refine ⟨A, T, a, rfl, rfl, hT, fun g => ?_, fun g => he _ T (by unfold Tb.leaveR; rw [if_neg g])⟩
    obtain ⟨a, rfl, ha⟩ := Tb.isA_nat g
    have eR := Tb.leaveR_nat ha
    walk_at "sx"
    refine r_wants TX.tb hT ?_
    walk_at "sx"
    refine r_ixWan hT ha ?_
    walk_at "sx"
    refine ⟨rfl, ?_⟩
    walk_at "sx"
    have rest : ∀ H1, TbK K H1 A (T.unwait a) → Fr A.foot H H1 → tLc (iList K (tMeth (He.ga K "Table") "held" (sp_t_held K) [] E (tVar 0) (tCons (tVar 1) tNil))) (gName 2) tYes (tTup (tCons (tVar 2) (tCons (tMeth (He.ga K "Table") "pass_on" (sp_t_pass_on K) [] E0 (tVar 0) (tCons (tVar 2) tNil)) tNil))) [2] [some (.ref A.p), some (.int (a : Int)), none] H1 Q := by
      intro H1 hT1 f1
      have hW1 := hW.unwait ha
      refine r_lcL0 ?_
      walk_at "sx"
      refine r_tmeth hT1 (by decide +kernel) ?_
      walk_at "sx"
      refine ⟨A, T.unwait a, (a : Int), rfl, rfl, hT1, fun _ h H2 hp e f2 => ?_, fun z => absurd (Tb.isA_of (by rw [Tb.unwait_n]; exact ha)) z⟩
      rw [Int.toNat_natCast] at e
      refine ⟨h, rfl, ⟨_, SqL.of e⟩, fun D hD => ?_⟩
      have hT2 := hT1.fr0 f2
      have nh : ¬ A.foot h := fresh_foot hT1 hp
      refine lc_list (K := K) (a := h) (xs := ((T.unwait a).held a).map nV) (fun i H' => LvW K A (T.unwait a) H2 D (((T.unwait a).held a).take i) H') ⟨hD, (Fr.new hD).up, ⟨[], upd_same, .nil⟩, hT2.fr0 (Fr.new hD)⟩ (fun i H' hi w => SqL.of (w.fr.old _ _ e nh)) (fun i x H' hi w => ?_) (fun H' w => ?_)
      · obtain ⟨l, hl, rfl⟩ : ∃ l, ((T.unwait a).held a)[i]? = some l ∧ x = nV l := by
          rw [List.getElem?_map] at hi
          cases q : ((T.unwait a).held a)[i]? with
          | none => rw [q] at hi; cases hi
          | some l => rw [q] at hi; exact ⟨l, rfl, (Option.some.inj hi).symm⟩
        have hm : l < (T.unwait a).m := Tb.held_lt (List.mem_of_getElem? hl)
        have et : ((T.unwait a).held a).take (i + 1) = ((T.unwait a).held a).take i ++ [l] := by
          rw [List.take_succ, hl]
          rfl
        have hWi := Tb.Wf.passAll (((T.unwait a).held a).take i) hW1 (fun k hk => Tb.held_lt (List.mem_of_mem_take hk))
        obtain ⟨w1, w2, ⟨vs, w3, w3'⟩, w4⟩ := w
        refine ⟨rfl, ?_⟩
        walk_at "sx"
        refine r_tmeth w4 (by decide +kernel) ?_
        walk_at "sx"
        refine ⟨A, _, l, rfl, rfl, w4, by rw [Tb.passAll_m]; exact hm, fun b hb => (hWi.lw l b hb).1, fun H3 hT3 f3 => ?_⟩
        walk_at "sx"
        refine r_newT (by show 2 ≤ 1000; decide) (fun t H4 ht et4 f4 => ?_)
        have nD : ¬ A.foot D := fresh_foot hT2 hD
        have eD : H4 D = some (.lst vs) := f4.lst (f3.old _ _ w3 nD)
        have hlen : vs.length ≤ 12 := by
          have q1 := w3'.len
          have q2 := Tb.passAll_len (((T.unwait a).held a).take i) (T.unwait a)
          have q3 := Tb.held_len (T := T.unwait a) (a := a)
          have q4 := hW1.sz.m12
          rw [show (gone (Tb.passAll (((T.unwait a).held a).take i) (T.unwait a)).1).length = (Tb.passAll (((T.unwait a).held a).take i) (T.unwait a)).1.length from List.length_map _] at q1
          have q5 : (((T.unwait a).held a).take i).length ≤ ((T.unwait a).held a).length := by rw [List.length_take]; exact Nat.min_le_right _ _
          omega
        refine ⟨vs, eD, small1000 (by omega), ?_⟩
        have f5 : Fr (fun b => b = D) H4 (upd H4 D (.lst (vs ++ [.ref t]))) := Fr.put eD (fun xs z => by cases z)
        rw [et]
        refine ⟨w1, ?_, ?_, ?_⟩
        · exact (w2.trans (f3.trans f4.up)).mut_at w1
        · rw [Tb.passAll_snoc, gone_snoc]
          exact ⟨_, upd_same, ((w3'.fr ((f3.trans f4.up))).app (TdAll.one (td_two et4 (.int _) (td_o _ _)))).fr f5⟩
        · rw [Tb.passAll_snoc]
          exact (hT3.fr0 f4).fr f5 (fun b hb z => fresh_has hT2 hD (z ▸ hb))
      · rw [List.length_map, List.take_length] at w
        exact ho _ _ eR D H' w.tb (f1.trans (f2.up.trans w.fr)) (f1.fresh (f2.fresh w.new)) w.at_
    refine r_decN (fun g => ?_) (fun g => ?_)
    · obtain ⟨l, hl⟩ : ∃ l, T.wa a = some l := by
        cases q : T.wa a with
        | none => exact absurd ((oV_non _).mpr q) g
        | some l => exact ⟨l, rfl⟩
      obtain ⟨hlm, hmem⟩ := hW.wl a l hl
      walk_at "sx"
      refine r_lines TX.tb hT ?_
      walk_at "sx"
      refine r_wants TX.tb hT ?_
      walk_at "sx"
      refine r_ixWan hT ha ?_
      rw [hl]
      refine r_ixLin hT hlm (fun b eb hb => r_tyL hb ?_)
      walk_at "sx"
      refine r_remLine hT eb hmem (fun H1 hT1 f1 => ?_)
      walk_at "sx"
      refine r_wants TX.tb hT1 ?_
      walk_at "sx"
      refine r_setWan hT1 ha none (fun H2 hT2 f2 => ?_)
      walk_at "sx"
      exact rest H2 (by rw [Tb.unwait_some hl]; exact hT2) (f1.trans f2)
    · walk_at "sx"
      have g' := (oV_non _).mp g
      exact rest H (by rw [Tb.unwait_none g']; exact hT) Fr.refl
theorem sc_Lsets : FnScope ["_law_many", "_law_found", "_law_agent", "_law_some"] ["_law_many"] (defScope s_Lsets) := ⟨rfl, rfl, rfl, by decide +kernel, rfl, by decide +kernel, by decide +kernel⟩
theorem ok_Lsets (TX : Txt K mg) : OkF P w K mg base 1 (He.ga K "_law_sets") ["_law_many"] (sp_Lsets K) := by
  refine okF TX.f_Lsets sc_Lsets (fun _ _ _ _ _ _ us hl => match us, hl with | [_], _ => rfl) (fun vs H Q E h => ?_) (fun cdv A outer s H vs Q E hr h => ?_)
  · obtain ⟨_, rfl, _⟩ := h
    rfl
  · obtain ⟨x, rfl, h⟩ := h
    refine ⟨_, (pss_cons (ps_set (i := 1) sc_Lsets.nd rfl (Or.inl rfl) (pe_lst (pa_cons (pe_tup pa_nil) pa_nil))) (pss_cons (ps_for pOwn rfl (pi_range1 (by rfl) TX.z_range (pa_cons (pv 0) pa_nil)) (pg_name (i := 2) sc_Lsets.nd rfl (Or.inr rfl)) (pss_one (ps_set (i := 1) sc_Lsets.nd rfl (Or.inl rfl) (pe_op op_cat (pv 1) (pe_lc (own := [("_law_some", 3)]) (g := gName 3) rfl sc_Lsets.nd (k_listI (K := K) rfl (pv 1)) (blkOk_by (N := ["_law_many", "_law_found", "_law_agent", "_law_some"]) (sc := defScope s_Lsets) (by decide +kernel)) (fun _ _ _ _ _ => pg_name (i := 3) sc_Lsets.nd rfl (Or.inl rfl)) (fun _ _ _ _ _ => by exact pts_nil) (fun _ _ _ _ _ => by exact (pe_op (k_catA (K := K) rfl) (pv 3) (pe_tup (pa_cons (pv 2) pa_nil))))))))) (pss_one (ps_ret (pv 1))))), ?_⟩
    refine r_st (σ' := [some x, none, none, none]) rfl ?_
    try dsimp only [cxOf]
    obtain ⟨n, rfl, hn, hq⟩ := h
    walk_at "sx"
    refine r_newT (Nat.zero_le _) (fun t H1 ht et f1 => ?_)
    walk_at "sx"
    refine r_newL (by show 1 ≤ 1000; decide) (fun p H2 hp ep f2 => ?_)
    walk_at "sx"
    refine r_forR (n := n) (by omega) (fun Q q => by walk_at "sx"; exact q) (fun i σ' H' => ∃ p x2, σ' = [some (.int (n : Int)), some (.ref p), x2, none] ∧ H p = none ∧ LsAt H' p ((setsT i).map ringD) ∧ Fr No H H') ⟨p, _, rfl, f1.fresh hp, ⟨_, ep, .cons (.tup (f2.tup _ _ et) .nil) .nil⟩, f1.trans f2⟩ (fun i σ' H3 hi pp => ?_) (fun σ' H3 pp => ?_)
    · obtain ⟨p, x2, rfl, hp, ⟨vs, ev, av⟩, f3⟩ := pp
      have hle := sets_le (k := i) (by omega)
      have hvl : vs.length = (setsT i).length := by rw [av.len, List.length_map]
      walk_at "sx"
      refine r_lcL (a := p) (xs := vs) (fun _ => true) (fun j => ringD ((setsT i).getD j [] ++ [i])) (by omega) (fun Q q => by walk_at "sx"; exact q) ev (fun _ => rfl) (fun j x H' hx f => tells_yes) (fun j x H' hx _ f Q q => ?_) (fun pc H4 hpc elc f4 => ?_)
      · obtain ⟨r, a, er, rfl, ea⟩ := ring_at av hx
        have eg : (setsT i).getD j [] = r := by rw [List.getD_eq_getElem?_getD, er]; rfl
        have hr := sets_mem_le (k := i) (by omega) (List.mem_of_getElem? er)
        walk_at "sx"
        refine r_newT (by show 1 ≤ 1000; decide) (fun t H5 ht et f5 => ?_)
        refine r_catN (s := r) (k := i) ((f.trans f5).tup _ _ ea) et (by omega) (fun v H6 td f6 => ?_)
        rw [eg] at q
        exact q v H6 (f5.trans f6) td
      rw [hvl, turns_list (setsT i) [] (fun _ => true) (fun s => ringD (s ++ [i])), List.filter_eq_self.mpr (fun _ _ => rfl)] at elc
      obtain ⟨ws, ew, aw⟩ := elc
      have hwl : ws.length = (setsT i).length := by rw [aw.len, List.length_map]
      refine r_cat (f4.lst ev) ew (by omega) (fun p3 H5 hp3 e5 f5 => ?_)
      walk_at "sx"
      refine ⟨p3, _, rfl, (f3.trans f4).fresh hp3, ⟨_, e5, ?_⟩, (f3.trans f4).trans f5⟩
      have e : (setsT (i + 1)).map ringD = (setsT i).map ringD ++ (setsT i).map (fun s => ringD (s ++ [i])) := by
        show ((setsT i) ++ (setsT i).map (· ++ [i])).map ringD = _
        rw [List.map_append, List.map_map]
        rfl
      rw [e]
      exact ((av.fr f4).fr f5).app (aw.fr f5)
    · obtain ⟨p, x2, rfl, hp, hls, f3⟩ := pp
      walk_at "sx"
      exact hq p H3 hp hls f3
theorem sc_Lnext : FnScope ["_law_t", "_law_agent", "_law_lock"] ["_law_t", "_law_agent"] (defScope s_Lnext) := ⟨rfl, rfl, rfl, by decide +kernel, rfl, by decide +kernel, by decide +kernel⟩
theorem ok_Lnext (TX : Txt K mg) : OkF P w K mg base 1 (He.ga K "_law_next") ["_law_t", "_law_agent"] (sp_Lnext K) := by
  refine okF TX.f_Lnext sc_Lnext (fun _ _ _ _ _ _ us hl => match us, hl with | [_, _], _ => rfl) (fun vs H Q E h => ?_) (fun cdv A outer s H vs Q E hr h => ?_)
  · obtain ⟨_, _, rfl, _⟩ := h
    rfl
  · obtain ⟨x, y, rfl, h⟩ := h
    refine ⟨_, (pss_cons (ps_set (i := 2) sc_Lnext.nd rfl (Or.inl rfl) (pe_ix (k_ixl (K := K) rfl) (pe_dget (hu_of hr) (pv 0) pe_str (fun _ _ => rfl)) (pv 1) (fun _ _ => rfl))) (pss_one (ps_ret (pe_ifExp (pt_cmpR (op_isN) (pv 2) pe_non (nomark _)) pe_non (pe_ix (k_ixl (K := K) rfl) (pe_dget (hu_of hr) (pv 0) pe_str (fun _ _ => rfl)) (pv 2) (fun _ _ => rfl)))))), ?_⟩
    refine r_st (σ' := [some x, some y, none]) rfl ?_
    try dsimp only [cxOf]
    obtain ⟨D, T, a, rfl, rfl, hD, hW, ha, q⟩ := h
    walk_at "sx"
    refine r_dgWan hD ?_
    walk_at "sx"
    refine l_ixWan hD ha ?_
    walk_at "sx"
    refine ⟨rfl, ?_⟩
    walk_at "sx"
    unfold Tb.nx at q
    cases hw : T.wa a with
    | none =>
      rw [hw] at q
      refine r_dec (fun _ => ?_) (fun g => absurd rfl g)
      walk_at "sx"
      exact q
    | some l =>
      rw [hw] at q
      refine r_dec (fun g => by cases g) (fun _ => ?_)
      walk_at "sx"
      refine r_dgOwn hD ?_
      walk_at "sx"
      exact l_ixOwn hD (hW.wl a l hw).1 q
theorem sc_Lrings : FnScope ["_law_t", "_law_found", "_law_agent", "_law_some", "_law_here"] ["_law_t"] (defScope s_Lrings) := ⟨rfl, rfl, rfl, by decide +kernel, rfl, by decide +kernel, by decide +kernel⟩
theorem ok_Lrings (TX : Txt K mg) : OkF P w K mg base 2 (He.ga K "_law_rings") ["_law_t"] (sp_Lrings K) := by
  obtain ⟨⟨fd_Lnext, G_Lnext, b_Lnext⟩, k_Lnext⟩ := (ok_Lnext TX : OkF P w K mg base _ _ _ _)
  refine okF TX.f_Lrings sc_Lrings (fun _ _ _ _ _ _ us hl => match us, hl with | [_], _ => rfl) (fun vs H Q E h => ?_) (fun cdv A outer s H vs Q E hr h => ?_)
  · obtain ⟨_, rfl, _⟩ := h
    rfl
  · obtain ⟨x, rfl, h⟩ := h
    refine ⟨_, (pss_cons (ps_set (i := 1) sc_Lrings.nd rfl (Or.inl rfl) (pe_lst pa_nil)) (pss_cons (ps_for pOwn rfl (pi_range1 (by rfl) TX.z_range (pa_cons (pe_callB (k_len (K := K) rfl) (by rfl) TX.z_len (by decide +kernel) (pa_cons (pe_dget (hu_of hr) (pv 0) pe_str (fun _ _ => rfl)) pa_nil)) pa_nil)) (pg_name (i := 2) sc_Lrings.nd rfl (Or.inl rfl)) (pss_cons (ps_set (i := 3) sc_Lrings.nd rfl (Or.inl rfl) (pe_lst (pa_cons (pv 2) pa_nil))) (pss_cons (ps_set (i := 4) sc_Lrings.nd rfl (Or.inl rfl) (pe_call G_Lnext (hr.mono (by decide)) (by rfl) TX.g_Lnext k_Lnext b_Lnext .nil pE (pa_cons (pv 0) (pa_cons (pv 2) pa_nil)))) (pss_cons (ps_while pOwn (PW.pt (pw_and (pt_cmpR (op_notN) (pv 4) pe_non (nomark _)) (pw_and1 (pt_cmpR (k_notInS (K := K) rfl) (pv 4) (pv 3) (by with_unfolding_all rfl))))) (pss_cons (ps_expr (pe_bm PySem.F.plainAttrs_list PySem.F.slot_list_append PySem.F.type_list_append mt_append (pv 3) (pa_cons (pv 4) pa_nil))) (pss_one (ps_set (i := 4) sc_Lrings.nd rfl (Or.inl rfl) (pe_call G_Lnext (hr.mono (by decide)) (by rfl) TX.g_Lnext k_Lnext b_Lnext .nil pE (pa_cons (pv 0) (pa_cons (pv 4) pa_nil))))))) (pss_one (ps_if (PW.pt (pw_and (pt_cmpR (op_eq) (pv 4) (pv 2) (nomark _)) (pw_and1 (pt_cmpR (op_eq) (pe_callB (k_max (K := K) rfl rfl) (by rfl) TX.z_max (by decide +kernel) (pa_cons (pv 3) pa_nil)) (pv 2) (nomark _))))) (pss_one (ps_expr (pe_bm PySem.F.plainAttrs_list PySem.F.slot_list_append PySem.F.type_list_append mt_append (pv 1) (pa_cons (pe_callTy (k_tupOf (K := K) rfl) (by rfl) TX.z_tuple (by decide +kernel) (pa_cons (pv 3) pa_nil)) pa_nil)))) pss_nil)))))) (pss_one (ps_ret (pv 1))))), ?_⟩
    refine r_st (σ' := [some x, none, none, none, none]) rfl ?_
    try dsimp only [cxOf]
    obtain ⟨D, T, rfl, hD, hW, q⟩ := h
    walk_at "sx"
    refine r_newL (Nat.zero_le _) (fun p H1 hp e1 f1 => ?_)
    walk_at "sx"
    refine r_forR (n := T.n) (by have := hD.sz.n8; omega) (fun Q q => by walk_at "sx"; refine r_dgWan (hD.fr0 f1) ?_; walk_at "sx"; exact l_lenWan (hD.fr0 f1) q) (fun i σ' H' => ∃ x2 x3 x4 vs, σ' = [some (.ref D.d), some (.ref p), x2, x3, x4] ∧ Fr No H H' ∧ H' p = some (.lst vs) ∧ TdAll H' vs (((List.range i).filterMap T.ringAt).map ringD)) ⟨_, _, _, _, rfl, f1, e1, .nil⟩ (fun i σ' H2 hi pp => ?_) (fun σ' H2 pp => ?_)
    · obtain ⟨x2, x3, x4, vs, rfl, f2, e2, t2⟩ := pp
      have hvl : vs.length ≤ 8 := by
        rw [t2.len, List.length_map]
        have := List.length_filterMap_le T.ringAt (List.range i)
        rw [List.length_range] at this
        have := hD.sz.n8
        omega
      walk_at "sx"
      refine r_newL (by show 1 ≤ 1000; decide) (fun s H3 hs e3 f3 => ?_)
      walk_at "sx"
      have nps : s ≠ p := ne_fresh e2 hs
      have g3 := f2.trans f3
      refine ⟨D, T, i, rfl, rfl, hD.fr0 g3, hW, hi, ?_⟩
      walk_at "sx"
      have fin : ∀ (D0 : Ends) (f : List Nat) (h : Option Nat) (H4 : Hp), T.way i = (f, h) → Fr No H H4 → H4 p = some (.lst vs) → TdAll H4 vs (((List.range i).filterMap T.ringAt).map ringD) → H4 s = some (.lst (f.map nV)) →
          (∀ x2 x3 x4 vs' H5, Fr No H H5 → H5 p = some (.lst vs') → TdAll H5 vs' (((List.range (i + 1)).filterMap T.ringAt).map ringD) → D0.nx [some (.ref D.d), some (.ref p), x2, x3, x4] H5) →
          tIfS (tAnd (tTest (tOp rEq (tVar 4) (tVar 2))) (tTest (tOp rEq (tCB (rMax K) (tCons (tVar 3) tNil)) (tVar 2)))) (tDrop (tBM K "list" rAppend (tVar 1) (tCons (tCB (rTupQ K) (tCons (tVar 3) tNil)) tNil))) tNext D0 [some (.ref D.d), some (.ref p), some (.int (i : Int)), some (.ref s), some (oV h)] H4 := by
        intro D0 f h H4 ew f4 e4 t4 es hnx
        have er : (List.range (i + 1)).filterMap T.ringAt = (List.range i).filterMap T.ringAt ++ (match T.ringAt i with | none => [] | some r => [r]) := by
          rw [List.range_succ, List.filterMap_append]
          cases qq : T.ringAt i <;> simp [qq]
        have ring0 : T.ringAt i = none → D0.nx [some (.ref D.d), some (.ref p), some (.int (i : Int)), some (.ref s), some (oV h)] H4 := fun z => by
          refine hnx _ _ _ vs H4 f4 e4 ?_
          rw [er, z, List.append_nil]
          exact t4
        have f0 : f ≠ [] := by
          obtain ⟨_, _, j, z, w3, _⟩ := Tb.way_ok hW hi
          rw [ew] at w3
          rw [show f = j ++ [z] from w3]
          simp
        walk_at "sx"
        refine r_eq (scal_oo _ _) ?_
        walk_at "sx"
        refine r_dec (fun g => ?_) (fun g => ?_)
        · have g' := (oV_int _ _).mp g
          walk_at "sx"
          refine r_maxN es f0 ?_
          walk_at "sx"
          refine r_eq rfl ?_
          walk_at "sx"
          refine r_dec (fun g2 => ?_) (fun g2 => ?_)
          · walk_at "sx"
            refine r_tyL e4 ?_
            walk_at "sx"
            refine r_tupN es (fun t H5 ht e5 f5 => ?_)
            have e45 := f5.lst e4
            walk_at "sx"
            refine r_append e45 (by omega) ?_
            have f6 : Fr No H (upd H5 p (.lst (vs ++ [V.ref t]))) := (f4.trans f5).mut hp
            have f6' : Fr (Only1 p) H5 (upd H5 p (.lst (vs ++ [V.ref t]))) := Fr.put e45 (fun xs z => by cases z)
            refine hnx _ _ _ _ _ f6 upd_same ?_
            have hr : T.ringAt i = some f := by
              unfold Tb.ringAt
              rw [ew, if_pos ⟨g', by have := V.int.inj g2; exact Int.ofNat.inj this⟩]
            rw [er, hr, List.map_append]
            exact ((t4.fr f5).app (TdAll.one (Td.tup e5 (td_nats H5 f)))).fr f6'
          · walk_at "sx"
            refine ring0 ?_
            unfold Tb.ringAt
            rw [ew, if_neg (fun k => g2 (by show V.int (Tb.mx f : Int) = _; rw [k.2]))]
        · walk_at "sx"
          refine ring0 ?_
          unfold Tb.ringAt
          rw [ew, if_neg (fun k => g ((oV_int _ _).mpr k.1))]
      refine ⟨fun m σ' H' => ∃ (f : List Nat) (h : Option Nat), m = T.n + 1 - f.length ∧ σ' = [some (.ref D.d), some (.ref p), some (.int (i : Int)), some (.ref s), some (oV h)] ∧ Fr No H H' ∧ H' p = some (.lst vs) ∧ TdAll H' vs (((List.range i).filterMap T.ringAt).map ringD) ∧ H' s = some (.lst (f.map nV)) ∧ T.Wk f h (T.way i), ⟨_, [i], T.nx i, rfl, rfl, g3, f3.lst e2, t2.fr f3, e3, Tb.Wk.init hW hi⟩, ?_⟩
      rintro m σ' H' ⟨f, h, rfl, rfl, f4, e4, t4, es, w⟩
      have hl := w.len
      have h8 := hD.sz.n8
      walk_at "sx"
      refine ⟨rfl, ?_⟩
      walk_at "sx"
      cases h with
      | none =>
        refine r_decN (fun g => absurd rfl g) (fun _ => r_F ?_)
        refine fin _ f none _ w.stop0 f4 e4 t4 es ?_
        intro x2 x3 x4 vs' H5 k1 k2 k3
        exact ⟨_, _, _, vs', rfl, k1, k2, k3⟩
      | some b =>
        refine r_decN (fun _ => ?_) (fun g => by cases g)
        walk_at "sx"
        refine r_notInL es ?_
        walk_at "sx"
        refine r_decN (fun hb => ?_) (fun hb => ?_)
        · obtain ⟨w', hl'⟩ := w.step hW hb
          refine ⟨fun σ2 H2 => ∃ m', m' < T.n + 1 - f.length ∧ ∃ (f' : List Nat) (h' : Option Nat), m' = T.n + 1 - f'.length ∧ σ2 = [some (.ref D.d), some (.ref p), some (.int (i : Int)), some (.ref s), some (oV h')] ∧ Fr No H H2 ∧ H2 p = some (.lst vs) ∧ TdAll H2 vs (((List.range i).filterMap T.ringAt).map ringD) ∧ H2 s = some (.lst (f'.map nV)) ∧ T.Wk f' h' (T.way i), fun σ2 H2 z => z, ?_⟩
          walk_at "sx"
          refine r_tyL es ?_
          walk_at "sx"
          refine r_append es (by rw [List.length_map]; omega) ?_
          have f5 : Fr No H (upd H' s (.lst (f.map nV ++ [V.int (b : Int)]))) := f4.mut (f2.fresh hs)
          have f5' : Fr (Only1 s) H' (upd H' s (.lst (f.map nV ++ [V.int (b : Int)]))) := Fr.put es (fun xs z => by cases z)
          walk_at "sx"
          refine ⟨D, T, b, rfl, rfl, hD.fr0 f5, hW, w.hl b rfl, ?_⟩
          walk_at "sx"
          refine ⟨_, ?_, f ++ [b], T.nx b, rfl, rfl, f5, f5'.old _ _ e4 (fun z => nps z.symm), t4.fr f5', ?_, w'⟩
          · rw [List.length_append, List.length_singleton]; omega
          · rw [upd_same, List.map_append]; rfl
        · refine fin _ f (some b) _ (w.stop1 hb) f4 e4 t4 es ?_
          intro x2 x3 x4 vs' H5 k1 k2 k3
          exact ⟨_, _, _, vs', rfl, k1, k2, k3⟩
    · obtain ⟨x2, x3, x4, vs, rfl, f2, e2, t2⟩ := pp
      walk_at "sx"
      exact q p H2 hp ⟨vs, e2, t2⟩ f2
theorem sc_Lheld : FnScope ["_law_t", "_law_agent", "_law_lock"] ["_law_t", "_law_agent"] (defScope s_Lheld) := ⟨rfl, rfl, rfl, by decide +kernel, rfl, by decide +kernel, by decide +kernel⟩
theorem ok_Lheld (TX : Txt K mg) : OkF P w K mg base 1 (He.ga K "_law_held") ["_law_t", "_law_agent"] (sp_Lheld K) := by
  refine okF TX.f_Lheld sc_Lheld (fun _ _ _ _ _ _ us hl => match us, hl with | [_, _], _ => rfl) (fun vs H Q E h => ?_) (fun cdv A outer s H vs Q E hr h => ?_)
  · obtain ⟨_, _, rfl, _⟩ := h
    rfl
  · obtain ⟨x, y, rfl, h⟩ := h
    refine ⟨_, (pss_one (ps_ret (pe_lc (own := [("_law_lock", 2)]) (g := gName 2) rfl sc_Lheld.nd (pi_range1 (by rfl) TX.z_range (pa_cons (pe_callB (k_len (K := K) rfl) (by rfl) TX.z_len (by decide +kernel) (pa_cons (pe_dget (hu_of hr) (pv 0) pe_str (fun _ _ => rfl)) pa_nil)) pa_nil)) (blkOk_by (N := ["_law_t", "_law_agent", "_law_lock"]) (sc := defScope s_Lheld) (by decide +kernel)) (fun _ _ _ _ _ => pg_name (i := 2) sc_Lheld.nd rfl (Or.inl rfl)) (fun _ _ _ _ _ => by exact (pts_one (pt_cmpR (op_eq) (pe_ix (k_ixl (K := K) rfl) (pe_dget (hu_of hr) (pv 0) pe_str (fun _ _ => rfl)) (pv 2) (fun _ _ => rfl)) (pv 1) (nomark _)))) (fun _ _ _ _ _ => by exact (pv 2))))), ?_⟩
    refine r_st (σ' := [some x, some y, none]) rfl ?_
    try dsimp only [cxOf]
    obtain ⟨D, T, a, rfl, rfl, hT, q⟩ := h
    walk_at "sx"
    refine r_lcR (n := T.m) (fun l => decide (T.ow l = some a)) (fun l => .int (l : Int)) (by have := hT.sz.m12; omega) (fun Q q => by walk_at "sx"; refine r_dgOwn hT ?_; walk_at "sx"; exact l_lenOwn hT q) (fun _ => rfl) (fun i H' hi f Q q => ?_) (fun i H' hi _ f Q q => ?_) (fun p H' hp hl f => ?_)
    · walk_at "sx"
      refine r_dgOwn (hT.fr0 f) ?_
      walk_at "sx"
      refine l_ixOwn (hT.fr0 f) hi ?_
      walk_at "sx"
      refine r_eq (scal_oo _ _) ?_
      walk_at "sx"
      have e : decide (oV (T.ow i) = V.int (a : Int)) = decide (T.ow i = some a) := by rw [decide_eq_decide]; exact oV_int _ _
      rw [e]
      exact q H' Fr.refl
    · walk_at "sx"
      exact q _ H' Fr.refl (.int _)
    · refine q p H' hp ?_ f
      have e : turns (fun l => decide (T.ow l = some a)) (fun l => PyData.int (l : Int)) T.m = ((T.held a).map fun l : Nat => (l : Int)).map PyData.int := by
        unfold turns Tb.held
        rw [List.map_map]
        rfl
      rw [e] at hl
      have := hl.ints
      rw [List.map_map] at this
      exact this
theorem sc_Lgot : FnScope ["_law_t", "_law_agent", "_law_lock"] ["_law_t", "_law_agent", "_law_lock"] (defScope s_Lgot) := ⟨rfl, rfl, rfl, by decide +kernel, rfl, by decide +kernel, by decide +kernel⟩
theorem ok_Lgot (TX : Txt K mg) : OkF P w K mg base 1 (He.ga K "_law_got") ["_law_t", "_law_agent", "_law_lock"] (sp_Lgot K) := by
  refine okF TX.f_Lgot sc_Lgot (fun _ _ _ _ _ _ us hl => match us, hl with | [_, _, _], _ => rfl) (fun vs H Q E h => ?_) (fun cdv A outer s H vs Q E hr h => ?_)
  · obtain ⟨_, _, _, rfl, _⟩ := h
    rfl
  · obtain ⟨x, y, z, rfl, h⟩ := h
    refine ⟨_, (pss_cons (ps_asg (pv 1) (pg_sub (pe_dget (hu_of hr) (pv 0) pe_str (fun _ _ => rfl)) (pv 2) set_list)) (pss_one (ps_asg (pe_op op_add (pe_ix (k_ixl (K := K) rfl) (pe_dget (hu_of hr) (pv 0) pe_str (fun _ _ => rfl)) (pv 2) (fun _ _ => rfl)) (pe_callTy call_int1 (by rfl) TX.z_int (by decide +kernel) (pa_cons (pe_cmpR (op_notN) (pv 1) pe_non (nomark _)) pa_nil))) (pg_sub (pe_dget (hu_of hr) (pv 0) pe_str (fun _ _ => rfl)) (pv 2) set_list)))), ?_⟩
    refine r_st (σ' := [some x, some y, some z]) rfl ?_
    try dsimp only [cxOf]
    obtain ⟨D, T, l, o, rfl, rfl, rfl, hT, hl, h⟩ := h
    walk_at "sx"
    refine r_dgOwn hT ?_
    walk_at "sx"
    refine l_setOwn hT hl o (fun H1 hT1 f1 => ?_)
    have hl1 : l < ({ T with own := T.own.set l o } : Tb).m := by show l < (T.own.set l o).length; rw [List.length_set]; exact hl
    walk_at "sx"
    refine r_dgTim hT1 ?_
    walk_at "sx"
    refine l_ixTim hT1 hl1 ?_
    walk_at "sx"
    refine ⟨rfl, ?_⟩
    walk_at "sx"
    refine .inr ⟨_, rfl, ?_⟩
    walk_at "sx"
    refine r_dgTim hT1 ?_
    walk_at "sx"
    cases o with
    | none =>
      refine l_setTimE hT1 hl1 (T.ti l) (by show V.int ((T.ti l : Int) + 0) = V.int (T.ti l : Int); rw [Int.add_zero]) (fun H2 hT2 f2 => ?_)
      walk_at "sx"
      have e : ({ T with own := T.own.set l none, tim := T.tim.set l (T.ti l) } : Tb) = T.got none l := by
        show ({ T with own := T.own.set l none, tim := T.tim.set l (T.tim.getD l 0) } : Tb) = { T with own := T.own.set l none }
        rw [set_getD]
      rw [← e] at h
      exact h H2 hT2 (f1.trans f2)
    | some a =>
      refine l_setTimE hT1 hl1 (T.ti l + 1) rfl (fun H2 hT2 f2 => ?_)
      walk_at "sx"
      exact h H2 hT2 (f1.trans f2)
theorem sc_Lpassed : FnScope ["_law_t", "_law_lock", "_law_line", "_law_agent"] ["_law_t", "_law_lock"] (defScope s_Lpassed) := ⟨rfl, rfl, rfl, by decide +kernel, rfl, by decide +kernel, by decide +kernel⟩
theorem ok_Lpassed (TX : Txt K mg) : OkF P w K mg base 2 (He.ga K "_law_passed") ["_law_t", "_law_lock"] (sp_Lpassed K) := by
  obtain ⟨⟨fd_Lgot, G_Lgot, b_Lgot⟩, k_Lgot⟩ := (ok_Lgot TX : OkF P w K mg base _ _ _ _)
  refine okF TX.f_Lpassed sc_Lpassed (fun _ _ _ _ _ _ us hl => match us, hl with | [_, _], _ => rfl) (fun vs H Q E h => ?_) (fun cdv A outer s H vs Q E hr h => ?_)
  · obtain ⟨_, _, rfl, _⟩ := h
    rfl
  · obtain ⟨x, y, rfl, h⟩ := h
    refine ⟨_, (pss_cons (ps_set (i := 2) sc_Lpassed.nd rfl (Or.inl rfl) (pe_ix (k_ixl (K := K) rfl) (pe_dget (hu_of hr) (pv 0) pe_str (fun _ _ => rfl)) (pv 1) (fun _ _ => rfl))) (pss_cons (ps_set (i := 3) sc_Lpassed.nd rfl (Or.inl rfl) (pe_ix (k_ixl (K := K) rfl) (pe_op op_cat (pv 2) (pe_lst (pa_cons pe_non pa_nil))) pe_int (fun _ _ => rfl))) (pss_cons (ps_asg (pe_slice (k_slL (K := K) rfl) (pv 2) (po_some pe_int) po_none) (pg_sub (pe_dget (hu_of hr) (pv 0) pe_str (fun _ _ => rfl)) (pv 1) set_list)) (pss_cons (ps_expr (pe_call G_Lgot (hr.mono (by decide)) (by rfl) TX.g_Lgot k_Lgot b_Lgot .nil pE (pa_cons (pv 0) (pa_cons (pv 3) (pa_cons (pv 1) pa_nil))))) (pss_cons (ps_if (pt_cmpR (op_notN) (pv 3) pe_non (nomark _)) (pss_one (ps_asg pe_non (pg_sub (pe_dget (hu_of hr) (pv 0) pe_str (fun _ _ => rfl)) (pv 3) set_list))) pss_nil) (pss_one (ps_ret (pv 3)))))))), ?_⟩
    refine r_st (σ' := [some x, some y, none, none]) rfl ?_
    try dsimp only [cxOf]
    obtain ⟨D, T, l, rfl, rfl, hT, hl, hb, h8, h⟩ := h
    walk_at "sx"
    refine r_dgLin hT ?_
    walk_at "sx"
    refine l_ixLin hT hl (fun a ea nb => ?_)
    walk_at "sx"
    refine r_newL (by show 1 ≤ 1000; decide) (fun t1 H1 ht1 et1 f1 => ?_)
    walk_at "sx"
    refine r_cat (f1.lst ea) et1 (by rw [List.length_map]; show _ + 1 ≤ 1000; omega) (fun t2 H2 ht2 et2 f2 => ?_)
    walk_at "sx"
    refine r_ixl (i := 0) et2 head_cat ?_
    rw [headD_o]
    walk_at "sx"
    have hT2 := hT.fr0 (f1.trans f2)
    have ea2 : H2 a = some (.lst ((T.ln l).map nV)) := f2.lst (f1.lst ea)
    refine r_tail ea2 (fun t3 H3 ht3 et3 f3 => ?_)
    have et3' : H3 t3 = some (.lst ((T.ln l).tail.map nV)) := by rw [et3, List.map_tail]
    have nb3 : ¬ D.bad t3 := hT2.fresh ht3
    have hT3 := hT2.fr0 f3
    walk_at "sx"
    refine r_dgLin hT3 ?_
    walk_at "sx"
    refine l_setLin hT3 hl et3' nb3 (fun H4 hT4 f4 => ?_)
    walk_at "sx"
    refine ⟨D, T.line l (T.ln l).tail, l, (T.ln l).head?, rfl, rfl, rfl, hT4, hl, fun H5 hT5 f5 => ?_⟩
    have f0 : Fr D.foot H H5 := (((f1.trans f2).trans f3).up.trans f4).trans f5
    walk_at "sx"
    refine ⟨rfl, ?_⟩
    walk_at "sx"
    have eh : T.heir l = (T.ln l).head? := rfl
    rw [eh] at h
    cases q : T.ln l with
    | nil =>
      rw [q] at h hT5
      refine r_decN (fun g => absurd rfl g) (fun _ => ?_)
      walk_at "sx"
      have e : (T.line l ([] : List Nat).tail).got ([] : List Nat).head? l = T.pass l := by
        rw [Tb.pass_nil q]
        show ({ T with own := T.own.set l none, lin := T.lin.set l [] } : Tb) = { T with own := T.own.set l none }
        have e2 : T.lin.set l [] = T.lin := by
          have : T.lin.getD l [] = [] := q
          have e3 := set_getD (xs := T.lin) (i := l) (d := [])
          rw [this] at e3
          exact e3
        rw [e2]
      rw [e] at hT5
      exact h H5 hT5 f0
    | cons x r =>
      rw [q] at h hT5
      refine r_decN (fun _ => ?_) (fun g => by cases g)
      walk_at "sx"
      refine r_dgWan hT5 ?_
      walk_at "sx"
      have hx : x < ((T.line l r).take x l).n := hb x (by rw [q]; exact List.mem_cons_self)
      refine l_setWan (o := none) (show LdAt H5 D ((T.line l r).take x l) from hT5) hx (fun H6 hT6 f6 => ?_)
      walk_at "sx"
      have e : ({ (T.line l r).take x l with wan := ((T.line l r).take x l).wan.set x none } : Tb) = T.pass l := by
        rw [Tb.pass_cons q]
        simp [Tb.take, Tb.line, Tb.free, Tb.stop, Tb.ti]
      rw [e] at hT6
      exact h H6 hT6 (f0.trans f6)
theorem sc_Lleave : FnScope ["_law_t", "_law_agent", "_law_lock", "_law_one"] ["_law_t", "_law_agent"] (defScope s_Lleave) := ⟨rfl, rfl, rfl, by decide +kernel, rfl, by decide +kernel, by decide +kernel⟩
theorem ok_Lleave (TX : Txt K mg) : OkF P w K mg base 3 (He.ga K "_law_leave") ["_law_t", "_law_agent"] (sp_Lleave K) := by
  obtain ⟨⟨fd_Lheld, G_Lheld, b_Lheld⟩, k_Lheld⟩ := (ok_Lheld TX : OkF P w K mg base _ _ _ _)
  obtain ⟨⟨fd_Lpassed, G_Lpassed, b_Lpassed⟩, k_Lpassed⟩ := (ok_Lpassed TX : OkF P w K mg base _ _ _ _)
  refine okF TX.f_Lleave sc_Lleave (fun _ _ _ _ _ _ us hl => match us, hl with | [_, _], _ => rfl) (fun vs H Q E h => ?_) (fun cdv A outer s H vs Q E hr h => ?_)
  · obtain ⟨_, _, rfl, _⟩ := h
    rfl
  · obtain ⟨x, y, rfl, h⟩ := h
    refine ⟨_, (pss_cons (ps_if (pt_not (pt_chain op_le op_lt pe_int (pv 1) (pe_callB (k_len (K := K) rfl) (by rfl) TX.z_len (by decide +kernel) (pa_cons (pe_dget (hu_of hr) (pv 0) pe_str (fun _ _ => rfl)) pa_nil)))) (pss_one (ps_ret pe_str)) pss_nil) (pss_cons (ps_set (i := 2) sc_Lleave.nd rfl (Or.inl rfl) (pe_ix (k_ixl (K := K) rfl) (pe_dget (hu_of hr) (pv 0) pe_str (fun _ _ => rfl)) (pv 1) (fun _ _ => rfl))) (pss_cons (ps_if (pt_cmpR (op_notN) (pv 2) pe_non (nomark _)) (pss_cons (ps_asg (pe_lc (own := [("_law_one", 3)]) (g := gName 3) rfl sc_Lleave.nd (k_listI (K := K) rfl (pe_ix (k_ixl (K := K) rfl) (pe_dget (hu_of hr) (pv 0) pe_str (fun _ _ => rfl)) (pv 2) (fun _ _ => rfl))) (blkOk_by (N := ["_law_t", "_law_agent", "_law_lock", "_law_one"]) (sc := defScope s_Lleave) (by decide +kernel)) (fun _ _ _ _ _ => pg_name (i := 3) sc_Lleave.nd rfl (Or.inl rfl)) (fun _ _ _ _ _ => by exact (pts_one (pt_cmpR (op_ne) (pv 3) (pv 1) (nomark _)))) (fun _ _ _ _ _ => by exact (pv 3))) (pg_sub (pe_dget (hu_of hr) (pv 0) pe_str (fun _ _ => rfl)) (pv 2) set_list)) (pss_one (ps_asg pe_non (pg_sub (pe_dget (hu_of hr) (pv 0) pe_str (fun _ _ => rfl)) (pv 1) set_list)))) pss_nil) (pss_one (ps_ret (pe_lc (own := [("_law_one", 3)]) (g := gName 3) rfl sc_Lleave.nd (k_listI (K := K) rfl (pe_call G_Lheld (hr.mono (by decide)) (by rfl) TX.g_Lheld k_Lheld b_Lheld .nil pE (pa_cons (pv 0) (pa_cons (pv 1) pa_nil)))) (blkOk_by (N := ["_law_t", "_law_agent", "_law_lock", "_law_one"]) (sc := defScope s_Lleave) (by decide +kernel)) (fun _ _ _ _ _ => pg_name (i := 3) sc_Lleave.nd rfl (Or.inl rfl)) (fun _ _ _ _ _ => by exact pts_nil) (fun _ _ _ _ _ => by exact (pe_tup (pa_cons (pv 3) (pa_cons (pe_call G_Lpassed (hr.mono (by decide)) (by rfl) TX.g_Lpassed k_Lpassed b_Lpassed .nil passL (pa_cons (pv 0) (pa_cons (pv 3) pa_nil))) pa_nil)))))))))), ?_⟩
    refine r_st (σ' := [some x, some y, none, none]) rfl ?_
    try dsimp only [cxOf]
    obtain ⟨D, T, a, rfl, rfl, hT, hW, he, ho⟩ := h
    walk_at "sx"
    refine r_range (fun _ q => by walk_at "sx"; exact q) (fun _ q => by walk_at "sx"; refine r_dgWan hT ?_; walk_at "sx"; exact l_lenWan hT q) ?_
    walk_at "sx"
    refine r_decN (fun g => ?_) (fun g => ?_)
    · walk_at "sx"
      exact he .noAgent T (by unfold Tb.leaveR; rw [if_neg (show ¬ T.isA a from g)])
    have g' : T.isA a := g
    obtain ⟨a, rfl, ha⟩ := Tb.isA_nat g'
    have eR := Tb.leaveR_nat ha
    walk_at "sx"
    refine r_dgWan hT ?_
    walk_at "sx"
    refine l_ixWan hT ha ?_
    walk_at "sx"
    refine ⟨rfl, ?_⟩
    walk_at "sx"
    have rest : ∀ H1 (x2 : Option V) (x3 : Option V), LdAt H1 D (T.unwait a) → Fr D.foot H H1 → tLc (iList K (tCall (sp_Lheld K) [] E (tCons (tVar 0) (tCons (tVar 1) tNil)))) (gName 3) tYes (tTup (tCons (tVar 3) (tCons (tCall (sp_Lpassed K) [] E0 (tCons (tVar 0) (tCons (tVar 3) tNil))) tNil))) [3] [some (.ref D.d), some (.int (a : Int)), x2, x3] H1 Q := by
      intro H1 x2 x3 hT1 f1
      have hW1 := hW.unwait ha
      refine r_lcL0 ?_
      walk_at "sx"
      refine ⟨D, T.unwait a, a, rfl, rfl, hT1, fun h H2 hp e f2 => ?_⟩
      refine ⟨h, rfl, ⟨_, SqL.of e⟩, fun P hP => ?_⟩
      have hT2 := hT1.fr0 f2
      have ob := hT.own_bad
      have nP : ¬ D.bad P := hT2.fresh hP
      have nPh : ¬ D.has P := fun z => nP (ob _ z)
      have nPf : ¬ D.foot P := fun z => nPh (LA.has_foot z)
      have hPn : h ≠ P := (ne_fresh e hP).symm
      have nh : ¬ D.foot h := fun z => hT1.fresh hp (ob _ (LA.has_foot z))
      have fP : Fr No H2 (upd H2 P (.lst [])) := Fr.new hP
      refine lc_list (K := K) (a := h) (xs := ((T.unwait a).held a).map nV) (fun i H' => LvD D (T.unwait a) H2 P (((T.unwait a).held a).take i) H') ⟨fP.up, ⟨[], upd_same, .nil⟩, hT2.more hP fP (by rw [upd_same]; simp)⟩ (fun i H' hi w => SqL.of (w.fr.old _ _ e nh)) (fun i x H' hi w => ?_) (fun H' w => ?_)
      · obtain ⟨l, hl, rfl⟩ : ∃ l, ((T.unwait a).held a)[i]? = some l ∧ x = nV l := by
          rw [List.getElem?_map] at hi
          cases q : ((T.unwait a).held a)[i]? with
          | none => rw [q] at hi; cases hi
          | some l => rw [q] at hi; exact ⟨l, rfl, (Option.some.inj hi).symm⟩
        have hm : l < (T.unwait a).m := Tb.held_lt (List.mem_of_getElem? hl)
        have et : ((T.unwait a).held a).take (i + 1) = ((T.unwait a).held a).take i ++ [l] := by
          rw [List.take_succ, hl]
          rfl
        have hWi := Tb.Wf.passAll (((T.unwait a).held a).take i) hW1 (fun k hk => Tb.held_lt (List.mem_of_mem_take hk))
        obtain ⟨w2, ⟨vs, w3, w3'⟩, w4⟩ := w
        refine ⟨rfl, ?_⟩
        walk_at "sx"
        refine ⟨D.more P, _, l, rfl, rfl, w4, by rw [Tb.passAll_m]; exact hm, fun b hb => (hWi.lw l b hb).1, hWi.len l, fun H3 hT3 f3 => ?_⟩
        have f3' : Fr D.foot H' H3 := f3
        walk_at "sx"
        refine r_newT (by show 2 ≤ 1000; decide) (fun t H4 ht et4 f4 => ?_)
        have eD : H4 P = some (.lst vs) := f4.lst (f3'.old _ _ w3 nPf)
        have hlen : vs.length ≤ 12 := by
          have q1 := w3'.len
          have q2 := Tb.passAll_len (((T.unwait a).held a).take i) (T.unwait a)
          have q3 := Tb.held_len (T := T.unwait a) (a := a)
          have q4 := hW1.sz.m12
          rw [gone_len] at q1
          have q5 : (((T.unwait a).held a).take i).length ≤ ((T.unwait a).held a).length := by rw [List.length_take]; exact Nat.min_le_right _ _
          omega
        refine ⟨vs, eD, small1000 (by omega), ?_⟩
        have f5 : Fr (fun b => b = P) H4 (upd H4 P (.lst (vs ++ [.ref t]))) := Fr.put eD (fun xs z => by cases z)
        rw [et]
        refine ⟨?_, ?_, ?_⟩
        · exact (w2.trans (f3'.trans f4.up)).mut_at hP
        · rw [Tb.passAll_snoc, gone_snoc]
          exact ⟨_, upd_same, ((w3'.fr ((f3'.trans f4.up))).app (TdAll.one (td_two et4 (.int _) (td_o _ _)))).fr f5⟩
        · rw [Tb.passAll_snoc]
          exact (hT3.fr0 f4).mut f5 nPh
      · rw [List.length_map, List.take_length] at w
        exact ho _ _ eR P H' (w.tb.less ob) (f1.trans (f2.up.trans w.fr)) (f1.fresh (f2.fresh hP)) w.at_
    refine r_decN (fun g => ?_) (fun g => ?_)
    · obtain ⟨l, hl⟩ : ∃ l, T.wa a = some l := by
        cases q : T.wa a with
        | none => exact absurd ((oV_non _).mpr q) g
        | some l => exact ⟨l, rfl⟩
      obtain ⟨hlm, hmem⟩ := hW.wl a l hl
      rw [hl]
      walk_at "sx"
      obtain ⟨b, eb, nb, hb⟩ := l_lineAt (K := K) hT hlm
      refine r_lcL (a := b) (xs := (T.ln l).map nV) (fun i => decide ((T.ln l).getD i 0 ≠ a)) (fun i => .int ((T.ln l).getD i 0 : Int)) (by rw [List.length_map]; have := hW.len l; omega) (fun Q q => by walk_at "sx"; refine r_dgLin hT ?_; walk_at "sx"; exact hb _ q) eb (fun _ => rfl) (fun i x H' hi f Q q => ?_) (fun i x H' hi _ f Q q => ?_) (fun p H1 hp hl1 f1 => ?_)
      · have ex : x = nV ((T.ln l).getD i 0) := by
          rw [List.getElem?_map] at hi
          cases qq : (T.ln l)[i]? with
          | none => rw [qq] at hi; cases hi
          | some y => rw [qq] at hi; rw [List.getD_eq_getElem?_getD, qq]; exact (Option.some.inj hi).symm
        subst ex
        walk_at "sx"
        refine r_ne rfl ?_
        walk_at "sx"
        have e : (!decide (nV ((T.ln l).getD i 0) = V.int (a : Int))) = decide ((T.ln l).getD i 0 ≠ a) := by
          by_cases z : (T.ln l).getD i 0 = a
          · rw [z, decide_eq_true (show nV a = V.int (a : Int) from rfl), decide_eq_false (fun k => k rfl)]; rfl
          · rw [decide_eq_true z, decide_eq_false (fun k => z (by have := V.int.inj k; omega))]; rfl
        rw [e]
        exact q H' Fr.refl
      · have ex : x = nV ((T.ln l).getD i 0) := by
          rw [List.getElem?_map] at hi
          cases qq : (T.ln l)[i]? with
          | none => rw [qq] at hi; cases hi
          | some y => rw [qq] at hi; rw [List.getD_eq_getElem?_getD, qq]; exact (Option.some.inj hi).symm
        subst ex
        walk_at "sx"
        exact q _ H' Fr.refl (.int _)
      · have et := turns_list (T.ln l) 0 (fun x => decide (x ≠ a)) (fun x => PyData.int (x : Int))
        rw [List.length_map, et] at hl1
        have ef : (T.ln l).filter (fun x => decide (x ≠ a)) = (T.ln l).erase a := by
          rw [(hW.nd l).erase_eq_filter a]
          congr 1
          funext x
          by_cases z : x = a <;> simp [z]
        rw [ef] at hl1
        have ep : H1 p = some (.lst (((T.ln l).erase a).map nV)) := by
          have e9 : ((T.ln l).erase a).map (fun x : Nat => PyData.int (x : Int)) = (((T.ln l).erase a).map fun x : Nat => (x : Int)).map PyData.int := by rw [List.map_map]; rfl
          rw [e9] at hl1
          have := hl1.ints
          rw [List.map_map] at this
          exact this
        have hT1 := hT.fr0 f1
        walk_at "sx"
        refine r_dgLin hT1 ?_
        walk_at "sx"
        refine l_setLin hT1 hlm ep (hT.fresh hp) (fun H2 hT2 f2 => ?_)
        walk_at "sx"
        refine r_dgWan hT2 ?_
        walk_at "sx"
        refine l_setWan (o := none) hT2 ha (fun H3 hT3 f3 => ?_)
        walk_at "sx"
        exact rest H3 _ _ (by rw [Tb.unwait_some hl]; exact hT3) ((f1.up.trans f2).trans f3)
    · walk_at "sx"
      have g' := (oV_non _).mp g
      exact rest H _ _ (by rw [Tb.unwait_none g']; exact hT) Fr.refl
theorem sc_Lcopy : FnScope ["_law_t", "_law_word"] ["_law_t"] (defScope s_Lcopy) := ⟨rfl, rfl, rfl, by decide +kernel, rfl, by decide +kernel, by decide +kernel⟩
theorem ok_Lcopy (TX : Txt K mg) : OkF P w K mg base 1 (He.ga K "_law_copy") ["_law_t"] (sp_Lcopy K) := by
  refine okF TX.f_Lcopy sc_Lcopy (fun _ _ _ _ _ _ us hl => match us, hl with | [_], _ => rfl) (fun vs H Q E h => ?_) (fun cdv A outer s H vs Q E hr h => ?_)
  · obtain ⟨_, rfl, _⟩ := h
    rfl
  · obtain ⟨x, rfl, h⟩ := h
    refine ⟨_, (pss_one (ps_ret (pe_callTy (k_dictP (K := K) rfl rfl) (by rfl) TX.z_dict (by decide +kernel) (pa_cons (pe_lock (pe_lc (own := [("_law_word", 1)]) (g := gName 1) rfl sc_Lcopy.nd (pi_keys (pv 0)) (blkOk_by (N := ["_law_t", "_law_word"]) (sc := defScope s_Lcopy) (by decide +kernel)) (fun _ _ _ _ _ => pg_name (i := 1) sc_Lcopy.nd rfl (Or.inl rfl)) (fun _ _ _ _ _ => by exact pts_nil) (fun _ _ _ _ _ => by exact (pe_tup (pa_cons (pv 1) (pa_cons (pe_callTy (k_listOf (K := K) rfl) (by rfl) TX.z_list (by decide +kernel) (pa_cons (pe_dget (hu_of hr) (pv 0) (pv 1) (fun _ _ => rfl)) pa_nil)) pa_nil)))))) pa_nil)))), ?_⟩
    refine r_st (σ' := [some x, none]) rfl ?_
    try dsimp only [cxOf]
    obtain ⟨D, T, rfl, hD, hq⟩ := h
    obtain ⟨as, a1, a2, a3⟩ := hD.lin
    have hsz := hD.sz
    have nep : ∀ {b : Addr}, b ∈ [D.ow, D.li, D.ti, D.wa, D.ro] → b ≠ D.d := fun {b} hb z => by
      have nd := hD.nd
      rw [List.nodup_cons] at nd
      exact nd.1 (z ▸ hb)
    walk_at "sx"
    refine r_lockE (d := D.d) (u := .dK D.kvs) hD.dic True.intro (fun xs z => by cases z) (fun od => ?_)
    have old0 : ∀ {b : Addr} {o : HO}, H b = some o → b ≠ D.d → upd H D.d (.frz od (.dK D.kvs)) b = some o := fun e n => by rw [upd_ne n]; exact e
    let ys : List (List V) := [T.own.map oV, as.map V.ref, T.tim.map nV, T.wan.map oV, T.rou.map nV]
    have h_at : ∀ (i : Nat) k v, D.kvs[i]? = some (k, v) → ∃ a xs, ys[i]? = some xs ∧ v = V.ref a ∧ upd H D.d (.frz od (.dK D.kvs)) a = some (.lst xs) ∧ valV D.kvs k = some v ∧ a ≠ D.d := fun i k v h => by
      match i, h with
      | 0, h => cases h; exact ⟨_, _, rfl, rfl, old0 hD.own (nep (by simp)), rfl, nep (by simp)⟩
      | 1, h => cases h; exact ⟨_, _, rfl, rfl, old0 a1 (nep (by simp)), rfl, nep (by simp)⟩
      | 2, h => cases h; exact ⟨_, _, rfl, rfl, old0 hD.tim (nep (by simp)), rfl, nep (by simp)⟩
      | 3, h => cases h; exact ⟨_, _, rfl, rfl, old0 hD.wan (nep (by simp)), rfl, nep (by simp)⟩
      | 4, h => cases h; exact ⟨_, _, rfl, rfl, old0 hD.rou (nep (by simp)), rfl, nep (by simp)⟩
      | i + 5, h => cases h
    generalize hH0 : upd H D.d (.frz od (.dK D.kvs)) = H0 at h_at
    have eD0 : H0 D.d = some (.frz od (.dK D.kvs)) := by rw [← hH0, upd_same]
    refine r_lcL0 ?_
    refine r_keysI ?_
    walk_at "sx"
    refine ⟨D.d, od, rfl, .inl ⟨D.kvs, eD0, fun P hP => ?_⟩⟩
    refine lc_it (walk_keys (d := D.d) (o := od) (kvs := D.kvs)) (fun i H' => ∃ ps : List (Addr × Addr), ps.length = i ∧ H' P = some (.lst (ps.map fun p => V.ref p.1)) ∧ Fr No H0 H' ∧ (P :: ps.map (·.2)).Nodup ∧ ∀ (j : Nat) p k v xs, ps[j]? = some p → D.kvs[j]? = some (k, v) → ys[j]? = some xs → H' p.1 = some (.tup [kV k, .ref p.2]) ∧ H' p.2 = some (.lst xs) ∧ H0 p.2 = none) ?_ (fun i H' _ pp => ?_) (fun i x H' H'' hi pp hy => ?_) (fun H' pp => ?_)
    · exact ⟨[], rfl, upd_same, Fr.new hP, by simp, fun j p k v xs h => by cases h⟩
    · obtain ⟨ps, _, _, f, _⟩ := pp
      exact f.lst eD0
    · obtain ⟨rfl, k, v, ek, rfl⟩ := hy
      obtain ⟨ps, hl, eP, f, nd, hps⟩ := pp
      obtain ⟨a, xs, eys, rfl, ea, ev, na⟩ := h_at i k v ek
      refine ⟨rfl, ?_⟩
      refine r_yes ?_
      refine r_T ?_
      walk_at "sx"
      refine ⟨D.d, _, rfl, .inl ⟨D.kvs, k, .inr ⟨od, f.lst eD0⟩, rfl, ev.symm⟩, ?_⟩
      walk_at "sx"
      refine r_listOf (f.lst ea) (fun c H3 hc ec f3 => ?_)
      walk_at "sx"
      refine r_newT (by show 2 ≤ 1000; decide) (fun t H4 ht et f4 => ?_)
      have eP4 := (f3.trans f4).lst eP
      have hi5 : i < 5 := hi
      have ncP : c ≠ P := ne_fresh eP hc
      have ntP : t ≠ P := ne_fresh (f3.lst eP) ht
      have g4 := f3.trans f4
      refine ⟨_, eP4, small1000 (by rw [List.length_map]; omega), ps ++ [(t, c)], by rw [List.length_append, hl]; rfl, by rw [upd_same, List.map_append]; rfl, (f.trans g4).mut hP, ?_, fun j p k' v' xs' e1 e2 e3 => ?_⟩
      · rw [List.map_append]
        show ((P :: ps.map (·.2)) ++ [c]).Nodup
        rw [List.nodup_append]
        refine ⟨nd, by simp, fun x hx y hy => ?_⟩
        have ey : y = c := by simpa using hy
        rw [ey]
        intro z
        rcases List.mem_cons.mp hx with q | q
        · exact ncP (z.symm.trans q)
        · obtain ⟨p, hp, ep⟩ := List.mem_map.mp q
          obtain ⟨j, hj, ej⟩ := List.mem_iff_getElem.mp hp
          have hj5 : j < 5 := by omega
          have := (hps j p _ _ _ (by rw [List.getElem?_eq_getElem hj, ej]) (List.getElem?_eq_getElem (show j < D.kvs.length from hj5)) (List.getElem?_eq_getElem (show j < ys.length from hj5))).2.1
          rw [ep, z, hc] at this
          cases this
      · by_cases hj : j < ps.length
        · rw [List.getElem?_append_left hj] at e1
          obtain ⟨q1, q2, q3⟩ := hps j p k' v' xs' e1 e2 e3
          have n2 : p.2 ≠ P := fun z => by
            rw [List.nodup_cons] at nd
            exact nd.1 (z ▸ List.mem_map.mpr ⟨p, List.mem_of_getElem? e1, rfl⟩)
          have n1 : p.1 ≠ P := fun z => by rw [z, eP] at q1; cases q1
          exact ⟨(upd_ne n1).trans (g4.lst q1), (upd_ne n2).trans (g4.lst q2), q3⟩
        · have hj2 : j = i := by
            have := (List.getElem?_eq_some_iff.mp e1).1
            rw [List.length_append, List.length_singleton] at this
            omega
          subst hj2
          rw [List.getElem?_append_right (by omega), hl, Nat.sub_self] at e1
          have ep : (t, c) = p := Option.some.inj e1
          rw [ek] at e2
          cases e2
          rw [eys] at e3
          cases e3
          rw [← ep]
          exact ⟨(upd_ne ntP).trans et, (upd_ne ncP).trans (f4.lst ec), f.fresh hc⟩
    · obtain ⟨ps, hl, eP, f, nd, hps⟩ := pp
      have hl5 : ps.length = 5 := hl
      refine ⟨f.lst eD0, ?_⟩
      have g : Fr No H (upd H' D.d (.dK D.kvs)) := fr_lock (fun xs z => by cases z) hD.dic (show Fr No (upd H D.d (.frz od (.dK D.kvs))) H' by rw [hH0]; exact f)
      have old : ∀ {b : Addr} {o : HO}, H' b = some o → (∀ o' u', o ≠ .frz o' u') → upd H' D.d (.dK D.kvs) b = some o := fun {b o} e n => by
        have z : b ≠ D.d := fun z => by
          rw [z, f.lst eD0] at e
          exact n _ _ (Option.some.inj e).symm
        rw [upd_ne z]; exact e
      match ps, hl5 with
      | [p0, p1, p2, p3, p4], _ =>
      obtain ⟨t0, c0, n0⟩ := hps 0 p0 _ _ _ rfl rfl rfl
      obtain ⟨t1, c1, n1⟩ := hps 1 p1 _ _ _ rfl rfl rfl
      obtain ⟨t2, c2, n2⟩ := hps 2 p2 _ _ _ rfl rfl rfl
      obtain ⟨t3, c3, n3⟩ := hps 3 p3 _ _ _ rfl rfl rfl
      obtain ⟨t4, c4, n4⟩ := hps 4 p4 _ _ _ rfl rfl rfl
      generalize hH1 : upd H' D.d (.dK D.kvs) = H1 at g old
      have nf : ∀ {xs : List V} o' u', HO.lst xs ≠ .frz o' u' := fun o' u' z => by cases z
      have nt : ∀ {xs : List V} o' u', HO.tup xs ≠ .frz o' u' := fun o' u' z => by cases z
      refine ⟨P, [p0.1, p1.1, p2.1, p3.1, p4.1], [(.inr "owners", .ref p0.2), (.inr "lines", .ref p1.2), (.inr "times", .ref p2.2), (.inr "wants", .ref p3.2), (.inr "rounds", .ref p4.2)], rfl, SqL.of (old eP nf), .cons (SqT.of (old t0 nt)) (.cons (SqT.of (old t1 nt)) (.cons (SqT.of (old t2 nt)) (.cons (SqT.of (old t3 nt)) (.cons (SqT.of (old t4 nt)) .nil)))), r_new (fun q H2 hqn eq2 f2 => ?_)⟩
      have hn : ∀ {c : Addr}, H0 c = none → H c = none := fun {c} e => by
        rw [← hH0] at e
        by_cases z : c = D.d
        · rw [z, upd_same] at e; cases e
        · rw [upd_ne z] at e; exact e
      have nin : ∀ b, LA.has ⟨q, p0.2, p1.2, p2.2, p3.2, p4.2, fun _ => True⟩ b → H b = none := fun b hb => by
        unfold LA.has at hb
        simp only [List.mem_cons, List.not_mem_nil, or_false] at hb
        rcases hb with e | e | e | e | e | e
        · rw [e]; exact g.fresh hqn
        · rw [e]; exact hn n0
        · rw [e]; exact hn n1
        · rw [e]; exact hn n2
        · rw [e]; exact hn n3
        · rw [e]; exact hn n4
      have nq : ∀ {c : Addr} {xs : List V}, H1 c = some (.lst xs) → q ≠ c := fun e z => by rw [← z, hqn] at e; cases e
      have l0 := old c0 nf
      have l1 := old c1 nf
      have l2 := old c2 nf
      have l3 := old c3 nf
      have l4 := old c4 nf
      refine hq ⟨q, p0.2, p1.2, p2.2, p3.2, p4.2, fun b => LA.has ⟨q, p0.2, p1.2, p2.2, p3.2, p4.2, fun _ => True⟩ b⟩ H2 ⟨eq2, f2.lst l0, f2.lst l2, f2.lst l3, f2.lst l4, ⟨as, f2.lst l1, a2, fun i a e => ⟨(g.trans f2).lst (a3 i a e).1, fun z => ?_⟩⟩, ?_, fun b hb z => ?_, fun b hb => hb, hsz⟩ (g.trans f2) nin
      · have := nin a z
        rw [(a3 i a e).1] at this
        cases this
      · have nd' : [p0.2, p1.2, p2.2, p3.2, p4.2].Nodup := (List.nodup_cons.mp nd).2
        refine List.nodup_cons.mpr ⟨fun z => ?_, nd'⟩
        simp only [List.mem_cons, List.not_mem_nil, or_false] at z
        rcases z with e | e | e | e | e
        · exact nq l0 e
        · exact nq l1 e
        · exact nq l2 e
        · exact nq l3 e
        · exact nq l4 e
      · unfold LA.has at hb
        simp only [List.mem_cons, List.not_mem_nil, or_false] at hb
        rcases hb with e | e | e | e | e | e
        · rw [e, eq2] at z; cases z
        · rw [e, f2.lst l0] at z; cases z
        · rw [e, f2.lst l1] at z; cases z
        · rw [e, f2.lst l2] at z; cases z
        · rw [e, f2.lst l3] at z; cases z
        · rw [e, f2.lst l4] at z; cases z
theorem sc_Lleft : FnScope ["_law_t", "_law_agents", "_law_other", "_law_agent"] ["_law_t", "_law_agents"] (defScope s_Lleft) := ⟨rfl, rfl, rfl, by decide +kernel, rfl, by decide +kernel, by decide +kernel⟩
theorem ok_Lleft (TX : Txt K mg) : OkF P w K mg base 4 (He.ga K "_law_left") ["_law_t", "_law_agents"] (sp_Lleft K) := by
  obtain ⟨⟨fd_Lrings, G_Lrings, b_Lrings⟩, k_Lrings⟩ := (ok_Lrings TX : OkF P w K mg base _ _ _ _)
  obtain ⟨⟨fd_Lleave, G_Lleave, b_Lleave⟩, k_Lleave⟩ := (ok_Lleave TX : OkF P w K mg base _ _ _ _)
  obtain ⟨⟨fd_Lcopy, G_Lcopy, b_Lcopy⟩, k_Lcopy⟩ := (ok_Lcopy TX : OkF P w K mg base _ _ _ _)
  refine okF TX.f_Lleft sc_Lleft (fun _ _ _ _ _ _ us hl => match us, hl with | [_, _], _ => rfl) (fun vs H Q E h => ?_) (fun cdv A outer s H vs Q E hr h => ?_)
  · obtain ⟨_, _, rfl, _⟩ := h
    rfl
  · obtain ⟨x, y, rfl, h⟩ := h
    refine ⟨_, (pss_cons (ps_set (i := 2) sc_Lleft.nd rfl (Or.inl rfl) (pe_call G_Lcopy (hr.mono (by decide)) (by rfl) TX.g_Lcopy k_Lcopy b_Lcopy .nil pE (pa_cons (pv 0) pa_nil))) (pss_cons (ps_for pOwn rfl (k_seqI (K := K) (i := 1) rfl (pv 1)) (pg_name (i := 3) sc_Lleft.nd rfl (Or.inl rfl)) (pss_one (ps_expr (pe_call G_Lleave (hr.mono (by decide)) (by rfl) TX.g_Lleave k_Lleave b_Lleave .nil pE (pa_cons (pv 2) (pa_cons (pv 3) pa_nil)))))) (pss_one (ps_ret (pe_cmpR (k_neD (K := K) rfl hr.units) (pe_call G_Lrings (hr.mono (by decide)) (by rfl) TX.g_Lrings k_Lrings b_Lrings .nil pE (pa_cons (pv 2) pa_nil)) (pe_lst pa_nil) (nomark _)))))), ?_⟩
    refine r_st (σ' := [some x, some y, none, none]) rfl ?_
    try dsimp only [cxOf]
    obtain ⟨D, T, as, rfl, hD, hW, ⟨a, rfl, hy⟩, hlt, hq⟩ := h
    walk_at "sx"
    refine ⟨D, T, rfl, hD, fun D' H1 hD1 f1 hnew => ?_⟩
    walk_at "sx"
    have na : ¬ D'.has a := fun z => by
      have := hnew a z
      rcases hy with e | e <;> rw [this] at e <;> cases e
    have stp : ∀ (i : Nat) x H2 (D0 : Ends) x3, (as.map nV)[i]? = some x → LdAt H2 D' (T.leaveAll (as.take i)) → Fr No H H2 → (∀ H3, LdAt H3 D' (T.leaveAll (as.take (i + 1))) → Fr No H H3 → Fr D'.foot H2 H3 → D0.nx [some (.ref D.d), some (.ref a), some (.ref D'.d), some x] H3) →
        tDrop (tCall (sp_Lleave K) [] E (tCons (tVar 2) (tCons (tVar 3) tNil))) D0 ([some (.ref D.d), some (.ref a), some (.ref D'.d), x3].set 3 (some x)) H2 := by
      intro i x H2 D0 x3 hx hD2 f2 hnx
      obtain ⟨z, ez, rfl⟩ := nats_at hx
      have hlt' : ∀ b ∈ as.take i, b < T.n := fun b hb => hlt b (List.mem_of_mem_take hb)
      obtain ⟨hW2, hn2⟩ := Tb.Wf.leaveAll hW hlt'
      have hz : z < (T.leaveAll (as.take i)).n := by rw [hn2]; exact hlt z (List.mem_of_getElem? ez)
      have eL := Tb.leaveR_nat hz
      walk_at "sx"
      refine ⟨D', _, (z : Int), rfl, rfl, hD2, hW2, (fun w T' e => by rw [eL] at e; cases e), fun b T' e p H3 hD3 f3 hp _ => ?_⟩
      rw [eL] at e
      cases e
      walk_at "sx"
      refine hnx H3 ?_ (f2.mutP f3 (fun b hb => .inr (hnew b (LA.has_foot hb)))) f3
      rw [List.take_succ, ez]
      show LdAt H3 D' (T.leaveAll (as.take i ++ [z]))
      rw [Tb.leaveAll_snoc]
      exact hD3
    have fin : ∀ H2, LdAt H2 D' (T.leaveAll as) → Fr No H H2 → ∀ D0 : Ends, D0.rt = Q → ∀ x3, tRet (tOp (rNeD K) (tCall (sp_Lrings K) [] E (tCons (tVar 2) tNil)) (tLst tNil)) D0 [some (.ref D.d), some (.ref a), some (.ref D'.d), x3] H2 := by
      intro H2 hD2 f2 D0 eD x3
      subst eD
      obtain ⟨hW2, hn2⟩ := Tb.Wf.leaveAll hW hlt
      walk_at "sx"
      refine ⟨D', _, rfl, hD2, hW2, fun p H3 hp hl f3 => ?_⟩
      walk_at "sx"
      refine r_newL (Nat.zero_le _) (fun p2 H4 hp2 e4 f4 => ?_)
      refine r_neNil (hl.fr f4 (fun z => z)).dp (rings_cmp _) e4 ?_
      have e : decide (((T.leaveAll as).ringsT.map ringD) = []) = decide ((T.leaveAll as).ringsT = []) := by rw [decide_eq_decide]; exact List.map_eq_nil_iff
      rw [e]
      exact hq H4 ((f2.trans f3).trans f4)
    rcases hy with hy | hy
    · refine r_forSL ?_
      refine r_forL (a := a) (xs := as.map nV) (fun Q q => by walk_at "sx"; exact q) (SqL.of (f1.lst hy)) (fun i σ' H' => ∃ x3, σ' = [some (.ref D.d), some (.ref a), some (.ref D'.d), x3] ∧ LdAt H' D' (T.leaveAll (as.take i)) ∧ Fr No H H' ∧ H' a = some (.lst (as.map nV))) ⟨_, rfl, hD1, f1, f1.lst hy⟩ (fun i σ' H' _ pp => ?_) (fun i x σ' H2 hx pp => ?_) (fun σ' H2 pp => ?_)
      · obtain ⟨x3, rfl, _, _, e⟩ := pp
        exact SqL.of e
      · obtain ⟨x3, rfl, hD2, f2, e2⟩ := pp
        refine stp i x H2 _ x3 hx hD2 f2 (fun H3 hD3 f3 g3 => ?_)
        exact ⟨_, rfl, hD3, f3, g3.old _ _ e2 (fun z => na (LA.has_foot z))⟩
      · obtain ⟨x3, rfl, hD2, f2, e2⟩ := pp
        rw [List.length_map, List.take_length] at hD2
        exact fin H2 hD2 f2 _ rfl x3
    · refine r_forST ?_
      refine r_forT (a := a) (xs := as.map nV) (fun Q q => by walk_at "sx"; exact q) (SqT.of (f1.tup _ _ hy)) (fun i σ' H' => ∃ x3, σ' = [some (.ref D.d), some (.ref a), some (.ref D'.d), x3] ∧ LdAt H' D' (T.leaveAll (as.take i)) ∧ Fr No H H') ⟨_, rfl, hD1, f1⟩ (fun i σ' H' _ pp => ?_) (fun i x σ' H2 hx pp => ?_) (fun σ' H2 pp => ?_)
      · obtain ⟨x3, rfl, _, f2⟩ := pp
        exact SqT.of (f2.tup _ _ hy)
      · obtain ⟨x3, rfl, hD2, f2⟩ := pp
        refine stp i x H2 _ x3 hx hD2 f2 (fun H3 hD3 f3 g3 => ?_)
        exact ⟨_, rfl, hD3, f3⟩
      · obtain ⟨x3, rfl, hD2, f2⟩ := pp
        rw [List.length_map, List.take_length] at hD2
        exact fin H2 hD2 f2 _ rfl x3
theorem sc_Lweight : FnScope ["_law_t", "_law_agents", "_law_agent"] ["_law_t", "_law_agents"] (defScope s_Lweight) := ⟨rfl, rfl, rfl, by decide +kernel, rfl, by decide +kernel, by decide +kernel⟩
theorem ok_Lweight (TX : Txt K mg) : OkF P w K mg base 2 (He.ga K "_law_weight") ["_law_t", "_law_agents"] (sp_Lweight K) := by
  obtain ⟨⟨fd_Lheld, G_Lheld, b_Lheld⟩, k_Lheld⟩ := (ok_Lheld TX : OkF P w K mg base _ _ _ _)
  refine okF TX.f_Lweight sc_Lweight (fun _ _ _ _ _ _ us hl => match us, hl with | [_, _], _ => rfl) (fun vs H Q E h => ?_) (fun cdv A outer s H vs Q E hr h => ?_)
  · obtain ⟨_, _, rfl, _⟩ := h
    rfl
  · obtain ⟨x, y, rfl, h⟩ := h
    refine ⟨_, (pss_one (ps_ret (pe_callB (k_sum (K := K) rfl rfl) (by rfl) TX.z_sum (by decide +kernel) (pa_cons (pe_lc (own := [("_law_agent", 2)]) (g := gName 2) rfl sc_Lweight.nd (k_seqI (K := K) (i := 1) rfl (pv 1)) (blkOk_by (N := ["_law_t", "_law_agents", "_law_agent"]) (sc := defScope s_Lweight) (by decide +kernel)) (fun _ _ _ _ _ => pg_name (i := 2) sc_Lweight.nd rfl (Or.inl rfl)) (fun _ _ _ _ _ => by exact pts_nil) (fun _ _ _ _ _ => by exact (pe_callB (k_len (K := K) rfl) (by rfl) TX.z_len (by decide +kernel) (pa_cons (pe_call G_Lheld (hr.mono (by decide)) (by rfl) TX.g_Lheld k_Lheld b_Lheld .nil passL (pa_cons (pv 0) (pa_cons (pv 2) pa_nil))) pa_nil)))) pa_nil)))), ?_⟩
    refine r_st (σ' := [some x, some y, none]) rfl ?_
    try dsimp only [cxOf]
    obtain ⟨D, T, as, rfl, hD, hy, hl, hq⟩ := h
    obtain ⟨a, rfl, hy⟩ := hy
    walk_at "sx"
    have fin : ∀ p H', H p = none → LsAt H' p (turns (fun _ => true) (fun i => PyData.int (T.wt (as.getD i 0) : Int)) (as.map nV).length) → Fr No H H' → rSum K [.ref p] H' Q := fun p H' hp hl f => by
      rw [List.length_map, turns_list as 0 (fun _ => true) (fun a => PyData.int (T.wt a : Int)), List.filter_eq_self.mpr (fun _ _ => rfl)] at hl
      have e : as.map (fun a => PyData.int (T.wt a : Int)) = ((as.map T.wt).map fun x : Nat => (x : Int)).map PyData.int := by rw [List.map_map, List.map_map]; rfl
      rw [e] at hl
      refine r_sumI hl ?_
      rw [sum_cast]
      exact hq H' f
    have elt : ∀ (i : Nat) x H', (as.map nV)[i]? = some x → Fr No H H' → Gives (tCB (rLenQ K) (tCons (tCall (sp_Lheld K) [] E (tCons (tVar 0) (tCons (tVar 2) tNil))) tNil)) [some (.ref D.d), some (.ref a), some x] H' (PyData.int (T.wt (as.getD i 0) : Int)) := fun i x H' hx f Q q => by
      obtain ⟨z, ez, rfl⟩ := nats_at hx
      have eg : as.getD i 0 = z := by rw [List.getD_eq_getElem?_getD, ez]; rfl
      walk_at "sx"
      refine ⟨D, T, z, rfl, rfl, hD.fr0 f, fun p2 H2 hp2 e2 f2 => ?_⟩
      walk_at "sx"
      refine r_lenS e2 ?_
      rw [List.length_map]
      rw [eg] at q
      exact q _ H2 f2 (.int _)
    rcases hy with hy | hy
    · refine r_lcSL ?_
      refine r_lcL (a := a) (xs := as.map nV) (fun _ => true) (fun i => PyData.int (T.wt (as.getD i 0) : Int)) (by rw [List.length_map]; omega) (fun Q q => by walk_at "sx"; exact q) hy (fun _ => rfl) (fun i x H' hx f => tells_yes) (fun i x H' hx _ f => elt i x H' hx f) fin
    · refine r_lcST ?_
      refine r_lcT (a := a) (xs := as.map nV) (fun _ => true) (fun i => PyData.int (T.wt (as.getD i 0) : Int)) (by rw [List.length_map]; omega) (fun Q q => by walk_at "sx"; exact q) hy (fun _ => rfl) (fun i x H' hx f => tells_yes) (fun i x H' hx _ f => elt i x H' hx f) fin
theorem sc_Lsame : FnScope ["_law_found", "_law_due_here", "_law_k"] ["_law_found", "_law_due_here"] (defScope s_Lsame) := ⟨rfl, rfl, rfl, by decide +kernel, rfl, by decide +kernel, by decide +kernel⟩
theorem step_Lsame (TX : Txt K mg) (k n : Nat) (ih : OkF P w K mg base k (He.ga K "_law_same") ["_law_found", "_law_due_here"] (sp_Lsame n)) : OkF P w K mg base (k + 1) (He.ga K "_law_same") ["_law_found", "_law_due_here"] (sp_Lsame (n + 1)) := by
  obtain ⟨⟨fd_Lsame, G_Lsame, b_Lsame⟩, k_Lsame⟩ := ih
  refine okF TX.f_Lsame sc_Lsame (fun _ _ _ _ _ _ us hl => match us, hl with | [_, _], _ => rfl) (fun vs H Q E h => ?_) (fun cdv A outer s H vs Q E hr h => ?_)
  · obtain ⟨_, _, rfl, _⟩ := h
    rfl
  · obtain ⟨x, y, rfl, h⟩ := h
    refine ⟨_, (pss_cons (ps_if (pt_val (pe_callB (k_isiT (K := K) rfl) (by rfl) TX.z_isinstance (by decide +kernel) (pa_cons (pv 1) (pa_cons (pe_tup (pa_cons (pe_bltn (v := .ty "tuple") (by rfl) TX.z_tuple (by decide +kernel) rfl) (pa_cons (pe_bltn (v := .ty "list") (by rfl) TX.z_list (by decide +kernel) rfl) pa_nil))) pa_nil)))) (pss_cons (ps_if (PW.pt (pw_or (pt_not (pt_val (pe_callB (k_isiT (K := K) rfl) (by rfl) TX.z_isinstance (by decide +kernel) (pa_cons (pv 0) (pa_cons (pe_tup (pa_cons (pe_bltn (v := .ty "tuple") (by rfl) TX.z_tuple (by decide +kernel) rfl) (pa_cons (pe_bltn (v := .ty "list") (by rfl) TX.z_list (by decide +kernel) rfl) pa_nil))) pa_nil))))) (pw_or1 (pt_cmpR (op_ne) (pe_callB (k_isi (K := K) rfl) (by rfl) TX.z_isinstance (by decide +kernel) (pa_cons (pv 0) (pa_cons (pe_bltn (v := .ty "list") (by rfl) TX.z_list (by decide +kernel) rfl) pa_nil))) (pe_callB (k_isi (K := K) rfl) (by rfl) TX.z_isinstance (by decide +kernel) (pa_cons (pv 1) (pa_cons (pe_bltn (v := .ty "list") (by rfl) TX.z_list (by decide +kernel) rfl) pa_nil))) (nomark _))))) (pss_one (ps_ret pe_bl)) pss_nil) (pss_cons (ps_if (pt_cmpR (op_ne) (pe_callB (k_len (K := K) rfl) (by rfl) TX.z_len (by decide +kernel) (pa_cons (pv 0) pa_nil)) (pe_callB (k_len (K := K) rfl) (by rfl) TX.z_len (by decide +kernel) (pa_cons (pv 1) pa_nil)) (nomark _)) (pss_one (ps_ret pe_bl)) pss_nil) (pss_one (ps_ret (pe_cmpR (k_eqD (K := K) rfl hr.units) (pe_lc (own := [("_law_k", 2)]) (g := gName 2) rfl sc_Lsame.nd (pi_range1 (by rfl) TX.z_range (pa_cons (pe_callB (k_len (K := K) rfl) (by rfl) TX.z_len (by decide +kernel) (pa_cons (pv 1) pa_nil)) pa_nil)) (blkOk_by (N := ["_law_found", "_law_due_here", "_law_k"]) (sc := defScope s_Lsame) (by decide +kernel)) (fun _ _ _ _ _ => pg_name (i := 2) sc_Lsame.nd rfl (Or.inl rfl)) (fun _ _ _ _ _ => by exact (pts_one (pt_not (pt_val (pe_call G_Lsame hr (by rfl) TX.g_Lsame k_Lsame b_Lsame .nil passL (pa_cons (pe_ix (k_ixq (K := K) rfl) (pv 0) (pv 2) (fun _ _ => rfl)) (pa_cons (pe_ix (k_ixq (K := K) rfl) (pv 1) (pv 2) (fun _ _ => rfl)) pa_nil))))))) (fun _ _ _ _ _ => by exact (pv 2))) (pe_lst pa_nil) (nomark _)))))) pss_nil) (pss_cons (ps_if (pt_cmpR (op_isN) (pv 1) pe_non (nomark _)) (pss_one (ps_ret (pe_cmpR (op_isN) (pv 0) pe_non (nomark _)))) pss_nil) (pss_cons (ps_if (pt_val (pe_callB (k_isi (K := K) rfl) (by rfl) TX.z_isinstance (by decide +kernel) (pa_cons (pv 1) (pa_cons (pe_bltn (v := .ty "str") (by rfl) TX.z_str (by decide +kernel) rfl) pa_nil)))) (pss_one (ps_ret (pe_and (pe_callB (k_isi (K := K) rfl) (by rfl) TX.z_isinstance (by decide +kernel) (pa_cons (pv 0) (pa_cons (pe_bltn (v := .ty "str") (by rfl) TX.z_str (by decide +kernel) rfl) pa_nil))) (pe_one (pe_cmpR (op_eq) (pv 0) (pv 1) (nomark _)))))) pss_nil) (pss_cons (ps_if (PW.pt (pw_or (pt_val (pe_callB (k_isi (K := K) rfl) (by rfl) TX.z_isinstance (by decide +kernel) (pa_cons (pv 1) (pa_cons (pe_bltn (v := .ty "bool") (by rfl) TX.z_bool (by decide +kernel) rfl) pa_nil)))) (pw_or1 (pt_val (pe_callB (k_isi (K := K) rfl) (by rfl) TX.z_isinstance (by decide +kernel) (pa_cons (pv 0) (pa_cons (pe_bltn (v := .ty "bool") (by rfl) TX.z_bool (by decide +kernel) rfl) pa_nil))))))) (pss_one (ps_ret (pe_and (pe_callB (k_isi (K := K) rfl) (by rfl) TX.z_isinstance (by decide +kernel) (pa_cons (pv 1) (pa_cons (pe_bltn (v := .ty "bool") (by rfl) TX.z_bool (by decide +kernel) rfl) pa_nil))) (pe_and (pe_callB (k_isi (K := K) rfl) (by rfl) TX.z_isinstance (by decide +kernel) (pa_cons (pv 0) (pa_cons (pe_bltn (v := .ty "bool") (by rfl) TX.z_bool (by decide +kernel) rfl) pa_nil))) (pe_one (pe_cmpR (op_eq) (pv 0) (pv 1) (nomark _))))))) pss_nil) (pss_one (ps_ret (pe_and (pe_callB (k_isi (K := K) rfl) (by rfl) TX.z_isinstance (by decide +kernel) (pa_cons (pv 0) (pa_cons (pe_bltn (v := .ty "int") (by rfl) TX.z_int (by decide +kernel) rfl) pa_nil))) (pe_one (pe_cmpR (op_eq) (pv 0) (pv 1) (nomark _)))))))))), ?_⟩
    refine r_st (σ' := [some x, some y, none]) rfl ?_
    try dsimp only [cxOf]
    obtain ⟨d, hx, hy, hn, hq⟩ := h
    walk_at "sx"
    refine r_newT (by show 2 ≤ 1000; decide) (fun tp H1 htp etp f1 => ?_)
    walk_at "sx"
    have tx := (hx.fr f1).ty (K := K)
    have ty := (hy.fr f1).ty (K := K)
    have seq : ∀ (ds : List PyData) (xs ys : List V), DdAll H xs ds → DdAll H ys ds → PyData.depthAll ds < n → ds.length ≤ 1000 → (∃ a b, x = .ref a ∧ y = .ref b ∧ ((H a = some (.tup xs) ∧ H b = some (.tup ys)) ∨ (H a = some (.lst xs) ∧ H b = some (.lst ys)))) →
        ∀ (D : Ends), D.rt = Q → ∀ H2, Fr No H H2 → tSeq (tIfS (tTest (tOp rNe (tCB (rLenQ K) (tCons (tVar 0) tNil)) (tCB (rLenQ K) (tCons (tVar 1) tNil)))) (tRet (tC (V.bl false))) tNext)
          (tRet (tOp (rEqD K) (tLc (iRng1 (tCons (tCB (rLenQ K) (tCons (tVar 1) tNil)) tNil)) (gName 2) (tNot (tB (tCall (sp_Lsame n) [] E0 (tCons (tOp (rIxQ K) (tVar 0) (tVar 2)) (tCons (tOp (rIxQ K) (tVar 1) (tVar 2)) tNil))))) (tVar 2) [2]) (tLst tNil)))
          D [some x, some y, none] H2 := by
      intro ds xs ys hxs hys hdep hlen ⟨a, b, ea, eb, hab⟩ D hD H2 f2
      subst hD
      subst ea eb
      have hab2 : (H2 a = some (.tup xs) ∧ H2 b = some (.tup ys)) ∨ (H2 a = some (.lst xs) ∧ H2 b = some (.lst ys)) := hab.elim (fun q => .inl ⟨f2.tup _ _ q.1, f2.tup _ _ q.2⟩) (fun q => .inr ⟨f2.lst q.1, f2.lst q.2⟩)
      have la : ∀ Q : VK, Q (.int (ds.length : Int)) H2 → rLenQ K [.ref a] H2 Q := fun Q q => by
        have e := hxs.len
        rcases hab2 with z | z
        · exact r_lenT z.1 (by rw [e]; exact q)
        · exact r_lenS z.1 (by rw [e]; exact q)
      have lb : ∀ Q : VK, Q (.int (ds.length : Int)) H2 → rLenQ K [.ref b] H2 Q := fun Q q => by
        have e := hys.len
        rcases hab2 with z | z
        · exact r_lenT z.2 (by rw [e]; exact q)
        · exact r_lenS z.2 (by rw [e]; exact q)
      walk_at "sx"
      refine la _ ?_
      walk_at "sx"
      refine lb _ ?_
      walk_at "sx"
      refine r_ne rfl ?_
      walk_at "sx"
      refine r_decN (fun g => absurd rfl g) (fun _ => ?_)
      walk_at "sx"
      refine r_lcR (n := ds.length) (fun _ => false) (fun _ => .none) hlen (fun Q q => by walk_at "sx"; exact lb _ q) (fun _ => rfl) (fun i H3 hi f3 Q' q' => ?_) (fun i H3 hi hf f3 => by cases hf) (fun p H3 hp hl f3 => ?_)
      · obtain ⟨v, dv, e1, e2, e3⟩ := hxs.at hi
        obtain ⟨u, du, e4, e5, e6⟩ := hys.at hi
        rw [e2] at e5
        cases e5
        have hab3 : (H3 a = some (.tup xs) ∧ H3 b = some (.tup ys)) ∨ (H3 a = some (.lst xs) ∧ H3 b = some (.lst ys)) := hab2.elim (fun q => .inl ⟨f3.tup _ _ q.1, f3.tup _ _ q.2⟩) (fun q => .inr ⟨f3.lst q.1, f3.lst q.2⟩)
        have ia : ∀ Q : VK, Q v H3 → rIxQ K (.ref a) (.int (i : Int)) H3 Q := fun Q q => hab3.elim (fun z => .inr ⟨a, _, _, _, rfl, rfl, SqT.of z.1, atI_nat e1, q⟩) (fun z => .inl ⟨a, _, _, _, rfl, rfl, SqL.of z.1, atI_nat e1, q⟩)
        have ib : ∀ Q : VK, Q u H3 → rIxQ K (.ref b) (.int (i : Int)) H3 Q := fun Q q => hab3.elim (fun z => .inr ⟨b, _, _, _, rfl, rfl, SqT.of z.2, atI_nat e4, q⟩) (fun z => .inl ⟨b, _, _, _, rfl, rfl, SqL.of z.2, atI_nat e4, q⟩)
        walk_at "sx"
        refine ia _ ?_
        walk_at "sx"
        refine ib _ ?_
        walk_at "sx"
        have f4 := f2.trans f3
        refine ⟨dv, e3.fr f4, e6.fr f4, Nat.lt_of_le_of_lt (depth_at e2) hdep, fun H4 f5 => ?_⟩
        walk_at "sx"
        exact q' H4 f5
      · have et : turns (fun _ => false) (fun _ => PyData.none) ds.length = [] := by unfold turns; simp
        rw [et] at hl
        walk_at "sx"
        refine r_newL (Nat.zero_le _) (fun p2 H4 hp2 e4 f4 => ?_)
        refine r_eqNil (hl.fr f4 (fun z => z)).dp CmpAll.nil e4 ?_
        exact hq H4 ((f2.trans f3).trans f4)
    cases hy with
    | non =>
      cases hx
      refine r_isi2 (a := "NoneType") false false false ty etp (by decide +kernel) (by decide +kernel) rfl ?_
      walk_at "sx"
      refine ⟨rfl, ?_⟩
      walk_at "sx"
      refine r_dec (fun _ => ?_) (fun g => absurd rfl g)
      walk_at "sx"
      exact ⟨rfl, hq _ f1⟩
    | bl b =>
      cases hx
      refine r_isi2 (a := "bool") false false false ty etp (by decide +kernel) (by decide +kernel) rfl ?_
      walk_at "sx"
      refine ⟨rfl, ?_⟩
      walk_at "sx"
      refine r_dec (fun g => nomatch g) (fun _ => ?_)
      walk_at "sx"
      refine r_isi (a := "bool") false ty (by decide +kernel) ?_
      walk_at "sx"
      refine r_isi (a := "bool") true ty (by decide +kernel) ?_
      walk_at "sx"
      refine r_isi (a := "bool") true ty (by decide +kernel) ?_
      walk_at "sx"
      refine r_isi (a := "bool") true tx (by decide +kernel) ?_
      walk_at "sx"
      refine r_eq rfl ?_
      rw [decide_eq_true rfl]
      exact hq _ f1
    | int i =>
      cases hx
      refine r_isi2 (a := "int") false false false ty etp (by decide +kernel) (by decide +kernel) rfl ?_
      walk_at "sx"
      refine ⟨rfl, ?_⟩
      walk_at "sx"
      refine r_dec (fun g => nomatch g) (fun _ => ?_)
      walk_at "sx"
      refine r_isi (a := "int") false ty (by decide +kernel) ?_
      walk_at "sx"
      refine r_isi (a := "int") false ty (by decide +kernel) ?_
      walk_at "sx"
      refine r_isi (a := "int") false tx (by decide +kernel) ?_
      walk_at "sx"
      refine r_isi (a := "int") true tx (by decide +kernel) ?_
      walk_at "sx"
      refine r_eq rfl ?_
      rw [decide_eq_true rfl]
      exact hq _ f1
    | str s =>
      cases hx
      refine r_isi2 (a := "str") false false false ty etp (by decide +kernel) (by decide +kernel) rfl ?_
      walk_at "sx"
      refine ⟨rfl, ?_⟩
      walk_at "sx"
      refine r_dec (fun g => nomatch g) (fun _ => ?_)
      walk_at "sx"
      refine r_isi (a := "str") true ty (by decide +kernel) ?_
      walk_at "sx"
      refine r_isi (a := "str") true tx (by decide +kernel) ?_
      walk_at "sx"
      refine r_eq rfl ?_
      rw [decide_eq_true rfl]
      exact hq _ f1
    | @tup b0 ys0 ds0 e1 l1 a1 =>
      cases hx with
      | tup e2 l2 a2 =>
      have hd : PyData.depthAll ds0 < n := by simp only [PyData.depth] at hn; omega
      refine r_isi2 (a := "tuple") true false true ty etp (by decide +kernel) (by decide +kernel) rfl ?_
      walk_at "sx"
      refine r_newT (by show 2 ≤ 1000; decide) (fun tp2 H2 htp2 etp2 f2 => ?_)
      walk_at "sx"
      refine r_isi2 (a := "tuple") true false true ((Dd.tup e2 l2 a2).fr (f1.trans f2)).ty etp2 (by decide +kernel) (by decide +kernel) rfl ?_
      walk_at "sx"
      refine r_isi (a := "tuple") false ((Dd.tup e2 l2 a2).fr (f1.trans f2)).ty (by decide +kernel) ?_
      walk_at "sx"
      refine r_isi (a := "tuple") false ((Dd.tup e1 l1 a1).fr (f1.trans f2)).ty (by decide +kernel) ?_
      walk_at "sx"
      refine r_ne rfl ?_
      walk_at "sx"
      refine r_decN (fun g => absurd rfl g) (fun _ => r_next ?_)
      exact seq _ _ _ a2 a1 hd (by rw [← a1.len]; exact l1) ⟨_, _, rfl, rfl, .inl ⟨e2, e1⟩⟩ _ rfl H2 (f1.trans f2)
    | @lst b0 ys0 ds0 e1 l1 a1 =>
      cases hx with
      | lst e2 l2 a2 =>
      have hd : PyData.depthAll ds0 < n := by simp only [PyData.depth] at hn; omega
      refine r_isi2 (a := "list") false true true ty etp (by decide +kernel) (by decide +kernel) rfl ?_
      walk_at "sx"
      refine r_newT (by show 2 ≤ 1000; decide) (fun tp2 H2 htp2 etp2 f2 => ?_)
      walk_at "sx"
      refine r_isi2 (a := "list") false true true ((Dd.lst e2 l2 a2).fr (f1.trans f2)).ty etp2 (by decide +kernel) (by decide +kernel) rfl ?_
      walk_at "sx"
      refine r_isi (a := "list") true ((Dd.lst e2 l2 a2).fr (f1.trans f2)).ty (by decide +kernel) ?_
      walk_at "sx"
      refine r_isi (a := "list") true ((Dd.lst e1 l1 a1).fr (f1.trans f2)).ty (by decide +kernel) ?_
      walk_at "sx"
      refine r_ne rfl ?_
      walk_at "sx"
      refine r_decN (fun g => absurd rfl g) (fun _ => r_next ?_)
      exact seq _ _ _ a2 a1 hd (by rw [← a1.len]; exact l1) ⟨_, _, rfl, rfl, .inr ⟨e2, e1⟩⟩ _ rfl H2 (f1.trans f2)
theorem ok_Lsame_n (TX : Txt K mg) : ∀ n, OkF P w K mg base (n + 1) (He.ga K "_law_same") ["_law_found", "_law_due_here"] (sp_Lsame n)
  | 0 => okF TX.f_Lsame sc_Lsame (fun _ _ _ _ _ _ us hl => match us, hl with | [_, _], _ => rfl) (fun vs H Q E h => absurd h (by rintro ⟨x, y, rfl, d, _, _, z, _⟩; exact absurd z (Nat.not_lt_zero _))) (fun cdv A outer s H vs Q E hr h => absurd h (by rintro ⟨x, y, rfl, d, _, _, z, _⟩; exact absurd z (Nat.not_lt_zero _)))
  | n + 1 => step_Lsame TX (n + 1) n (ok_Lsame_n TX n)
theorem ok_Lsame (TX : Txt K mg) : OkF P w K mg base 9 (He.ga K "_law_same") ["_law_found", "_law_due_here"] (sp_Lsame 8) := ok_Lsame_n TX 8
theorem sc_lightest : FnScope ["pairs"] ["pairs"] (defScope s_lightest) := ⟨rfl, rfl, rfl, by decide +kernel, rfl, by decide +kernel, by decide +kernel⟩
theorem ok_lightest (TX : Txt K mg) : OkF P w K mg base 1 (He.ga K "lightest") ["pairs"] (sp_lightest K) := by
  refine okF TX.f_lightest sc_lightest (fun _ _ _ _ _ _ us hl => match us, hl with | [_], _ => rfl) (fun vs H Q E h => ?_) (fun cdv A outer s H vs Q E hr h => ?_)
  · obtain ⟨_, rfl, _⟩ := h
    rfl
  · obtain ⟨x, rfl, h⟩ := h
    refine ⟨_, (pss_one (ps_ret (pe_ix (k_ixt (K := K) rfl) (pe_callB (k_minP (K := K) rfl rfl hr.units) (by rfl) TX.z_min (by decide +kernel) (pa_cons (pv 0) pa_nil)) pe_int (fun _ _ => rfl)))), ?_⟩
    refine r_st (σ' := [some x]) rfl ?_
    try dsimp only [cxOf]
    obtain ⟨p, ps, rfl, hp, h0, hq⟩ := h
    walk_at "sx"
    refine r_minPairs hp h0 (fun m t hm hle ht => ?_)
    exact r_ixt (i := 1) (v := .int m.2) ht rfl (hq m hm hle)
theorem sc_least : FnScope ["table", "found", "ring", "agent"] ["table"] (defScope s_least) := ⟨rfl, rfl, rfl, by decide +kernel, rfl, by decide +kernel, by decide +kernel⟩
theorem ok_least (TX : Txt K mg) : OkF P w K mg base 7 (He.ga K "least") ["table"] (sp_least K) := by
  obtain ⟨⟨fd_t_held, G_t_held, b_t_held⟩, k_t_held⟩ := (ok_t_held TX : OkF P w K mg base _ _ _ _)
  obtain ⟨⟨fd_rings, G_rings, b_rings⟩, k_rings⟩ := (ok_rings TX : OkF P w K mg base _ _ _ _)
  obtain ⟨⟨fd_lightest, G_lightest, b_lightest⟩, k_lightest⟩ := (ok_lightest TX : OkF P w K mg base _ _ _ _)
  refine okF TX.f_least sc_least (fun _ _ _ _ _ _ us hl => match us, hl with | [_], _ => rfl) (fun vs H Q E h => ?_) (fun cdv A outer s H vs Q E hr h => ?_)
  · obtain ⟨_, rfl, _⟩ := h
    rfl
  · obtain ⟨x, rfl, h⟩ := h
    refine ⟨_, (pss_cons (ps_set (i := 1) sc_least.nd rfl (Or.inl rfl) (pe_lst pa_nil)) (pss_cons (ps_for pOwn rfl (k_listI (K := K) rfl (pe_call G_rings (hr.mono (by decide)) (by rfl) TX.g_rings k_rings b_rings .nil pE (pa_cons (pv 0) pa_nil))) (pg_name (i := 2) sc_least.nd rfl (Or.inl rfl)) (pss_one (ps_expr (pe_bm PySem.F.plainAttrs_list PySem.F.slot_list_append PySem.F.type_list_append mt_append (pv 1) (pa_cons (pe_call G_lightest (hr.mono (by decide)) (by rfl) TX.g_lightest k_lightest b_lightest .nil pE (pa_cons (pe_lc (own := [("agent", 3)]) (g := gName 3) rfl sc_least.nd (k_tupI (K := K) rfl (pv 2)) (blkOk_by (N := ["table", "found", "ring", "agent"]) (sc := defScope s_least) (by decide +kernel)) (fun _ _ _ _ _ => pg_name (i := 3) sc_least.nd rfl (Or.inl rfl)) (fun _ _ _ _ _ => by exact pts_nil) (fun _ _ _ _ _ => by exact (pe_tup (pa_cons (pe_callB (k_len (K := K) rfl) (by rfl) TX.z_len (by decide +kernel) (pa_cons (pe_meth (pv 0) TX.c_Table TX.m_t_held G_t_held (hr.mono (by decide)) b_t_held .nil passL (pa_cons (pv 3) pa_nil)) pa_nil)) (pa_cons (pv 3) pa_nil))))) pa_nil)) pa_nil))))) (pss_one (ps_ret (pe_tup (pa_cons (pe_callB (k_sum (K := K) rfl rfl) (by rfl) TX.z_sum (by decide +kernel) (pa_cons (pe_lc (own := [("agent", 3)]) (g := gName 3) rfl sc_least.nd (k_listI (K := K) rfl (pv 1)) (blkOk_by (N := ["table", "found", "ring", "agent"]) (sc := defScope s_least) (by decide +kernel)) (fun _ _ _ _ _ => pg_name (i := 3) sc_least.nd rfl (Or.inl rfl)) (fun _ _ _ _ _ => by exact pts_nil) (fun _ _ _ _ _ => by exact (pe_callB (k_len (K := K) rfl) (by rfl) TX.z_len (by decide +kernel) (pa_cons (pe_meth (pv 0) TX.c_Table TX.m_t_held G_t_held (hr.mono (by decide)) b_t_held .nil passL (pa_cons (pv 3) pa_nil)) pa_nil)))) pa_nil)) (pa_cons (pe_callB (k_sortedI (K := K) rfl) (by rfl) TX.z_sorted (by decide +kernel) (pa_cons (pv 1) pa_nil)) pa_nil))))))), ?_⟩
    refine r_st (σ' := [some x, none, none, none]) rfl ?_
    try dsimp only [cxOf]
    obtain ⟨A, T, rfl, hT, hW, hq⟩ := h
    obtain ⟨k1, k2⟩ := Tb.rings_len hW
    have hll := Tb.lights_len hW
    walk_at "sx"
    refine r_newL (Nat.zero_le _) (fun pf H1 hpf epf f1 => ?_)
    walk_at "sx"
    refine r_forLx ?_
    walk_at "sx"
    refine ⟨A, T, rfl, hT.fr0 f1, hW, fun pr H2 hpr epr f2 => ?_⟩
    obtain ⟨vr, er, ar⟩ := epr
    have hvl : vr.length = T.ringsT.length := by rw [ar.len, List.length_map]
    have npr : pr ≠ pf := ne_fresh epf hpr
    refine r_lstOn er (fun i σ' H' => ∃ x2, σ' = [some (.ref A.p), some (.ref pf), x2, none] ∧ Fr No H H' ∧ H' pr = some (.lst vr) ∧ TdAll H' vr (T.ringsT.map ringD) ∧ H' pf = some (.lst (((T.ringsT.take i).map T.lightT).map nV))) ⟨_, rfl, f1.trans f2, er, ar, f2.lst epf⟩ (fun i σ' H' _ pp => ?_) (fun i x σ' H3 hx pp => ?_) (fun σ' H3 pp => ?_)
    · obtain ⟨x2, rfl, _, e, _⟩ := pp
      exact SqL.of e
    · obtain ⟨x2, rfl, f3, er3, ar3, ep3⟩ := pp
      obtain ⟨r, a, eri, rfl, ea⟩ := ring_at ar3 hx
      have hrm := List.mem_of_getElem? eri
      obtain ⟨kr1, kr2⟩ := k2 r hrm
      have R := (Tb.mem_rings hW).mp hrm
      walk_at "sx"
      refine r_tyL ep3 ?_
      walk_at "sx"
      refine r_lcT (a := a) (xs := r.map nV) (fun _ => true) (fun i => pairD (T.wtP (r.getD i 0))) (by rw [List.length_map]; omega) (fun Q q => by walk_at "sx"; exact q) ea (fun _ => rfl) (fun i x H' hx f => tells_yes) (fun i x H' hx _ f Q q => ?_) (fun pc H4 hpc elc f4 => ?_)
      · obtain ⟨z, ez, rfl⟩ := nats_at hx
        have eg : r.getD i 0 = z := by rw [List.getD_eq_getElem?_getD, ez]; rfl
        have hz : z < T.n := R.lt z (List.mem_of_getElem? ez)
        have hT' := (hT.fr0 f3).fr0 f
        walk_at "sx"
        refine r_tmeth hT' (by decide +kernel) ?_
        walk_at "sx"
        refine ⟨A, T, (z : Int), rfl, rfl, hT', fun _ p5 H5 hp5 e5 f5 => ?_, fun w => absurd (Tb.isA_of hz) w⟩
        rw [Int.toNat_natCast] at e5
        walk_at "sx"
        refine r_lenS e5 ?_
        rw [List.length_map]
        walk_at "sx"
        refine r_newT (by show 2 ≤ 1000; decide) (fun t H6 ht et f6 => ?_)
        rw [eg] at q
        exact q _ H6 (f5.trans f6) (.tup et (.cons (.int _) (.cons (.int _) .nil)))
      rw [List.length_map, turns_list r 0 (fun _ => true) (fun a => pairD (T.wtP a)), List.filter_eq_self.mpr (fun _ _ => rfl)] at elc
      have em : r.map (fun a => pairD (T.wtP a)) = (r.map T.wtP).map pairD := by rw [List.map_map]; rfl
      rw [em] at elc
      walk_at "sx"
      refine ⟨pc, r.map T.wtP, rfl, elc, (fun z => kr2 (List.map_eq_nil_iff.mp z)), fun m hm hle => ?_⟩
      obtain ⟨z, hz, rfl⟩ := List.mem_map.mp hm
      have el := Tb.light_one (T := T) hz (fun b hb => hle _ (List.mem_map.mpr ⟨b, hb, rfl⟩))
      walk_at "sx"
      have hl3 : ((T.ringsT.take i).map T.lightT).length ≤ 8 := by rw [List.length_map, List.length_take]; omega
      refine r_append (f4.lst ep3) (by rw [List.length_map]; omega) ?_
      have fw : Fr (Only1 pf) H4 (upd H4 pf (.lst ((((T.ringsT.take i).map T.lightT).map nV) ++ [V.int (T.wtP z).2]))) := Fr.put (f4.lst ep3) (fun xs z => by cases z)
      refine ⟨_, rfl, (f3.trans f4).mut hpf, fw.old _ _ (f4.lst er3) npr, (ar3.fr f4).fr fw, ?_⟩
      rw [upd_same, List.take_succ, eri]
      show some (HO.lst (((T.ringsT.take i).map T.lightT).map nV ++ [nV z])) = _
      rw [← el]
      simp
    · obtain ⟨x2, rfl, f3, er3, ar3, ep3⟩ := pp
      rw [hvl, List.take_length] at ep3
      have ep3' : H3 pf = some (.lst (T.lights.map nV)) := ep3
      walk_at "sx"
      refine r_lcL (a := pf) (xs := T.lights.map nV) (fun _ => true) (fun i => PyData.int (T.wt (T.lights.getD i 0) : Int)) (by rw [List.length_map]; omega) (fun Q q => by walk_at "sx"; exact q) ep3' (fun _ => rfl) (fun i x H' hx f => tells_yes) (fun i x H' hx _ f Q q => ?_) (fun pc H4 hpc elc f4 => ?_)
      · obtain ⟨z, ez, rfl⟩ := nats_at hx
        have eg : T.lights.getD i 0 = z := by rw [List.getD_eq_getElem?_getD, ez]; rfl
        have hz : z < T.n := Tb.lights_lt hW z (List.mem_of_getElem? ez)
        have hT' := (hT.fr0 f3).fr0 f
        walk_at "sx"
        refine r_tmeth hT' (by decide +kernel) ?_
        walk_at "sx"
        refine ⟨A, T, (z : Int), rfl, rfl, hT', fun _ p5 H5 hp5 e5 f5 => ?_, fun w => absurd (Tb.isA_of hz) w⟩
        rw [Int.toNat_natCast] at e5
        walk_at "sx"
        refine r_lenS e5 ?_
        rw [List.length_map]
        rw [eg] at q
        exact q _ H5 f5 (.int _)
      rw [List.length_map, turns_list T.lights 0 (fun _ => true) (fun a => PyData.int (T.wt a : Int)), List.filter_eq_self.mpr (fun _ _ => rfl)] at elc
      have em : T.lights.map (fun a => PyData.int (T.wt a : Int)) = ((T.lights.map T.wt).map fun x : Nat => (x : Int)).map PyData.int := by rw [List.map_map, List.map_map]; rfl
      rw [em] at elc
      walk_at "sx"
      refine r_sumI elc ?_
      rw [sum_cast]
      walk_at "sx"
      have e4 : H4 pf = some (.lst ((T.lights.map fun x : Nat => (x : Int)).map V.int)) := by
        rw [f4.lst ep3', List.map_map]
        rfl
      refine ⟨pf, _, rfl, SqL.of e4, fun zs ps perm pw hps => ?_⟩
      have f5 : Fr No H4 (upd H4 ps (.lst (zs.map V.int))) := Fr.new hps
      walk_at "sx"
      refine r_newT (by show 2 ≤ 1000; decide) (fun t H6 ht et f6 => ?_)
      exact hq t ps zs H6 et ((f3.trans f4).fresh hps) (f6.lst upd_same) perm pw (((f3.trans f4).trans f5).trans f6)
theorem sc_Ldrawn : FnScope ["_law_state", "_law_many", "_law_found", "_law_cell"] ["_law_state", "_law_many"] (defScope s_Ldrawn) := ⟨rfl, rfl, rfl, by decide +kernel, rfl, by decide +kernel, by decide +kernel⟩
theorem ok_Ldrawn (TX : Txt K mg) : OkF P w K mg base 1 (He.ga K "_law_drawn") ["_law_state", "_law_many"] (sp_Ldrawn K) := by
  refine okF TX.f_Ldrawn sc_Ldrawn (fun _ _ _ _ _ _ us hl => match us, hl with | [_, _], _ => rfl) (fun vs H Q E h => ?_) (fun cdv A outer s H vs Q E hr h => ?_)
  · obtain ⟨_, _, rfl, _⟩ := h
    rfl
  · obtain ⟨x, y, rfl, h⟩ := h
    refine ⟨_, (pss_cons (ps_if (pt_cmpR (op_gt) (pe_ix (k_ixl (K := K) rfl) (pv 0) pe_int (fun _ _ => rfl)) pe_int (nomark _)) (pss_cons (ps_set (i := 2) sc_Ldrawn.nd rfl (Or.inl rfl) (pe_op op_mod (pe_ix (k_ixl (K := K) rfl) (pv 0) pe_int (fun _ _ => rfl)) (pv 1))) (pss_cons (ps_asg (pe_op op_fdivW (pe_ix (k_ixl (K := K) rfl) (pv 0) pe_int (fun _ _ => rfl)) (pv 1)) (pg_sub (pv 0) pe_int set_list)) (pss_one (ps_ret (pv 2))))) pss_nil) (pss_cons (ps_asg (pe_op op_add (pe_ix (k_ixl (K := K) rfl) (pv 0) pe_int (fun _ _ => rfl)) pe_int) (pg_sub (pv 0) pe_int set_list)) (pss_cons (ps_if (pt_cmpR (op_le) (pe_ix (k_ixl (K := K) rfl) (pv 0) pe_int (fun _ _ => rfl)) (pe_callB (k_len (K := K) rfl) (by rfl) TX.z_len (by decide +kernel) (pa_cons (pe_ix (k_ixl (K := K) rfl) (pv 0) pe_int (fun _ _ => rfl)) pa_nil)) (nomark _)) (pss_cons (ps_set (i := 3) sc_Ldrawn.nd rfl (Or.inl rfl) (pe_ix (k_ixl (K := K) rfl) (pe_ix (k_ixl (K := K) rfl) (pv 0) pe_int (fun _ _ => rfl)) (pe_op op_sub (pe_ix (k_ixl (K := K) rfl) (pv 0) pe_int (fun _ _ => rfl)) pe_int) (fun _ _ => rfl))) (pss_cons (ps_asg (pe_ifExp (pt_cmpR (op_ge) (pv 3) (pe_op op_pow pe_int pe_int) (nomark _)) (pe_op op_fdivW (pv 3) (pv 1)) pe_int) (pg_sub (pv 0) pe_int set_list)) (pss_one (ps_ret (pe_op op_mod (pv 3) (pv 1)))))) pss_nil) (pss_cons (ps_asg (pe_op op_mod (pe_op op_add (pe_op op_mul (pe_ix (k_ixl (K := K) rfl) (pv 0) pe_int (fun _ _ => rfl)) pe_int) pe_int) pe_int) (pg_sub (pv 0) pe_int set_list)) (pss_one (ps_ret (pe_op op_mod (pe_op op_fdivW (pe_ix (k_ixl (K := K) rfl) (pv 0) pe_int (fun _ _ => rfl)) pe_int) (pv 1)))))))), ?_⟩
    refine r_st (σ' := [some x, some y, none, none]) rfl ?_
    try dsimp only [cxOf]
    obtain ⟨st, sc, ns, many, rfl, rfl, hS, hm, hm2, hF, h⟩ := h
    obtain ⟨⟨i, m, l, hst, hi, hl⟩, hq, hlen⟩ := hS
    have hw : CDivW l many := ⟨hm, by
      have := Nat.log2_lt (n := many.natAbs) (k := 200) (by omega)
      have h3 : many.natAbs < 2 ^ 200 := by omega
      exact Nat.lt_trans (this.mpr h3) (by decide)⟩
    have res : ∀ x : Int, ∃ r : Nat, x % many = (r : Int) ∧ (r : Int) < many := fun x => ⟨(x % many).toNat, by have := Int.emod_nonneg x (by omega : many ≠ 0); omega, by have := Int.emod_nonneg x (by omega : many ≠ 0); have := Int.emod_lt_of_pos x hm; omega⟩
    walk_at "sx"
    refine r_ixl (i := 3) hst rfl ?_
    walk_at "sx"
    refine r_dec (fun g => ?_) (fun g => ?_)
    · walk_at "sx"
      refine r_ixl (i := 3) hst rfl ?_
      walk_at "sx"
      refine r_I hm ?_
      walk_at "sx"
      refine r_ixl (i := 3) hst rfl ?_
      walk_at "sx"
      refine r_I hw ?_
      walk_at "sx"
      refine r_setl (i := 3) hst (by show 3 < 4; decide) ?_
      have f : Fr (Only1 st) H (upd H st (.lst ([V.ref sc, .int i, .int m, .int l].set 3 (.int (l / many))))) := Fr.put hst (fun xs z => by cases z)
      walk_at "sx"
      obtain ⟨r, er, hr2⟩ := res l
      rw [er]
      exact h r _ hr2 ⟨⟨i, m, l / many, upd_same, hi, Int.ediv_nonneg hl (by omega)⟩, hF.elim (fun k => k _) (fun k => sqL_fr hq f k), hlen⟩ f
    walk_at "sx"
    refine r_ixl (i := 1) hst rfl ?_
    walk_at "sx"
    refine r_setl (i := 1) hst (by show 1 < 4; decide) ?_
    have f1 : Fr (Only1 st) H (upd H st (.lst [.ref sc, .int (i + 1), .int m, .int l])) := Fr.put hst (fun xs z => by cases z)
    have e1 : upd H st (.lst ([V.ref sc, .int i, .int m, .int l].set 1 (.int (i + 1)))) = upd H st (.lst [.ref sc, .int (i + 1), .int m, .int l]) := rfl
    rw [e1]
    generalize hH1 : upd H st (.lst [V.ref sc, .int (i + 1), .int m, .int l]) = H1 at f1 ⊢
    have hst1 : H1 st = some (.lst [.ref sc, .int (i + 1), .int m, .int l]) := by rw [← hH1]; exact upd_same
    have hq1 : SqL K H1 sc (ns.map V.int) := hF.elim (fun k => k _) (fun k => sqL_fr hq f1 k)
    walk_at "sx"
    refine r_ixl (i := 1) hst1 rfl ?_
    walk_at "sx"
    refine r_ixl (i := 0) hst1 rfl ?_
    walk_at "sx"
    refine ⟨sc, _, rfl, .inl hq1, ?_⟩
    walk_at "sx"
    refine r_dec (fun g => ?_) (fun g => ?_)
    · rw [List.length_map] at g
      obtain ⟨j, ej⟩ : ∃ j : Nat, i = (j : Int) := ⟨i.toNat, by omega⟩
      subst ej
      have hj : j < ns.length := by omega
      walk_at "sx"
      refine r_ixl (i := 0) hst1 rfl ?_
      walk_at "sx"
      refine r_ixl (i := 1) hst1 rfl ?_
      walk_at "sx"
      have ee : ((j : Int) + 1 - 1) = (j : Int) := by omega
      rw [ee]
      refine ⟨sc, _, _, _, rfl, rfl, hq1, atI_nat (by rw [List.getElem?_map, List.getElem?_eq_getElem hj]; rfl), ?_⟩
      walk_at "sx"
      refine r_I ⟨by decide, by decide, by decide⟩ ?_
      walk_at "sx"
      have fin : ∀ (l' : Int) (QH : Hp → Prop), 0 ≤ l' → (∀ H2, StAt K H2 st sc ns → Fr (Only1 st) H H2 → QH H2) → rSetL (.ref st) (.int 3) (.int l') H1 QH := fun l' QH hl' q => by
        refine r_setl (i := 3) hst1 (by show 3 < 4; decide) ?_
        have f2 : Fr (Only1 st) H1 (upd H1 st (.lst ([V.ref sc, .int ((j : Int) + 1), .int m, .int l].set 3 (.int l')))) := Fr.put hst1 (fun xs z => by cases z)
        exact q _ ⟨⟨(j : Int) + 1, m, l', upd_same, by omega, hl'⟩, hF.elim (fun k => k _) (fun k => sqL_fr hq1 f2 k), hlen⟩ (f1.trans f2)
      refine r_dec (fun g2 => ?_) (fun g2 => ?_)
      · walk_at "sx"
        refine r_I hw ?_
        walk_at "sx"
        refine fin _ _ (Int.ediv_nonneg (Int.le_trans (by decide) g2) (Int.le_of_lt hm)) (fun H2 s2 f2 => ?_)
        walk_at "sx"
        refine r_I hm ?_
        walk_at "sx"
        obtain ⟨r, er, hr2⟩ := res ns[j]
        rw [er]
        exact h r _ hr2 s2 f2
      · walk_at "sx"
        refine fin _ _ (by decide) (fun H2 s2 f2 => ?_)
        walk_at "sx"
        refine r_I hm ?_
        walk_at "sx"
        obtain ⟨r, er, hr2⟩ := res ns[j]
        rw [er]
        exact h r _ hr2 s2 f2
    walk_at "sx"
    refine r_ixl (i := 2) hst1 rfl ?_
    walk_at "sx"
    refine r_I (Or.inr ⟨by decide, by decide⟩) ?_
    walk_at "sx"
    refine r_I (by decide) ?_
    walk_at "sx"
    refine r_setl (i := 2) hst1 (by show 2 < 4; decide) ?_
    have e2 : ∀ v, upd H1 st (.lst ([V.ref sc, .int (i + 1), .int m, .int l].set 2 v)) = upd H1 st (.lst [.ref sc, .int (i + 1), v, .int l]) := fun v => rfl
    rw [e2]
    generalize (m * 48271 + 11) % 2147483647 = m2
    have f2 : Fr (Only1 st) H1 (upd H1 st (.lst [V.ref sc, .int (i + 1), .int m2, .int l])) := Fr.put hst1 (fun xs z => by cases z)
    generalize hH2 : upd H1 st (.lst [V.ref sc, .int (i + 1), .int m2, .int l]) = H2 at f2 ⊢
    have hst2 : H2 st = some (.lst [.ref sc, .int (i + 1), .int m2, .int l]) := by rw [← hH2]; exact upd_same
    walk_at "sx"
    refine r_ixl (i := 2) hst2 rfl ?_
    walk_at "sx"
    refine r_I ⟨by decide, by decide +kernel⟩ ?_
    walk_at "sx"
    refine r_I hm ?_
    walk_at "sx"
    obtain ⟨r, er, hr2⟩ := res (m2 / 7)
    rw [er]
    exact h r _ hr2 ⟨⟨i + 1, m2, l, hst2, by omega, hl⟩, hF.elim (fun k => k _) (fun k => sqL_fr hq1 f2 k), hlen⟩ (f1.trans f2)
theorem sc_Lfault : FnScope ["_law_t", "_law_agent", "_law_lock"] ["_law_t", "_law_agent", "_law_lock"] (defScope s_Lfault) := ⟨rfl, rfl, rfl, by decide +kernel, rfl, by decide +kernel, by decide +kernel⟩
theorem ok_Lfault (TX : Txt K mg) : OkF P w K mg base 1 (He.ga K "_law_fault") ["_law_t", "_law_agent", "_law_lock"] (sp_Lfault K) := by
  refine okF TX.f_Lfault sc_Lfault (fun _ _ _ _ _ _ us hl => match us, hl with | [_, _, _], _ => rfl) (fun vs H Q E h => ?_) (fun cdv A outer s H vs Q E hr h => ?_)
  · obtain ⟨_, _, _, rfl, _⟩ := h
    rfl
  · obtain ⟨x, y, z, rfl, h⟩ := h
    refine ⟨_, (pss_cons (ps_if (pt_not (pt_chain op_le op_lt pe_int (pv 1) (pe_callB (k_len (K := K) rfl) (by rfl) TX.z_len (by decide +kernel) (pa_cons (pe_dget (hu_of hr) (pv 0) pe_str (fun _ _ => rfl)) pa_nil)))) (pss_one (ps_ret pe_str)) pss_nil) (pss_one (ps_ret (pe_ifExp (pt_chain op_le op_lt pe_int (pv 2) (pe_callB (k_len (K := K) rfl) (by rfl) TX.z_len (by decide +kernel) (pa_cons (pe_dget (hu_of hr) (pv 0) pe_str (fun _ _ => rfl)) pa_nil))) pe_str pe_str)))), ?_⟩
    refine r_st (σ' := [some x, some y, some z]) rfl ?_
    try dsimp only [cxOf]
    obtain ⟨D, T, a, l, rfl, rfl, rfl, hT, h⟩ := h
    walk_at "sx"
    refine r_range (fun _ q => by walk_at "sx"; exact q) (fun _ q => by walk_at "sx"; refine r_dgWan hT ?_; walk_at "sx"; exact l_lenWan hT q) ?_
    walk_at "sx"
    refine r_decN (fun g => ?_) (fun g => ?_)
    · walk_at "sx"
      have e : T.fault a l = some .noAgent := by unfold Tb.fault; rw [if_neg (show ¬ T.isA a from g)]
      rw [e] at h
      exact h
    walk_at "sx"
    refine r_range (fun _ q => by walk_at "sx"; exact q) (fun _ q => by walk_at "sx"; refine r_dgOwn hT ?_; walk_at "sx"; exact l_lenOwn hT q) ?_
    walk_at "sx"
    refine r_dec (fun g2 => ?_) (fun g2 => ?_)
    · walk_at "sx"
      have e : T.fault a l = none := by unfold Tb.fault; rw [if_pos (show T.isA a from g), if_pos (show T.isL l from g2)]
      rw [e] at h
      exact h
    · walk_at "sx"
      have e : T.fault a l = some .noLock := by unfold Tb.fault; rw [if_pos (show T.isA a from g), if_neg (show ¬ T.isL l from g2)]
      rw [e] at h
      exact h
theorem sc_Lgive : FnScope ["_law_t", "_law_agent", "_law_lock", "_law_word"] ["_law_t", "_law_agent", "_law_lock"] (defScope s_Lgive) := ⟨rfl, rfl, rfl, by decide +kernel, rfl, by decide +kernel, by decide +kernel⟩
theorem ok_Lgive (TX : Txt K mg) : OkF P w K mg base 3 (He.ga K "_law_give") ["_law_t", "_law_agent", "_law_lock"] (sp_Lgive K) := by
  obtain ⟨⟨fd_Lpassed, G_Lpassed, b_Lpassed⟩, k_Lpassed⟩ := (ok_Lpassed TX : OkF P w K mg base _ _ _ _)
  obtain ⟨⟨fd_Lfault, G_Lfault, b_Lfault⟩, k_Lfault⟩ := (ok_Lfault TX : OkF P w K mg base _ _ _ _)
  refine okF TX.f_Lgive sc_Lgive (fun _ _ _ _ _ _ us hl => match us, hl with | [_, _, _], _ => rfl) (fun vs H Q E h => ?_) (fun cdv A outer s H vs Q E hr h => ?_)
  · obtain ⟨_, _, _, rfl, _⟩ := h
    rfl
  · obtain ⟨x, y, z, rfl, h⟩ := h
    refine ⟨_, (pss_cons (ps_set (i := 3) sc_Lgive.nd rfl (Or.inl rfl) (pe_call G_Lfault (hr.mono (by decide)) (by rfl) TX.g_Lfault k_Lfault b_Lfault .nil pE (pa_cons (pv 0) (pa_cons (pv 1) (pa_cons (pv 2) pa_nil))))) (pss_cons (ps_if (pt_cmpR (op_ne) (pv 3) pe_str (nomark _)) (pss_one (ps_ret (pv 3))) pss_nil) (pss_cons (ps_if (PW.pt (pw_or (pt_cmpR (op_notN) (pe_ix (k_ixl (K := K) rfl) (pe_dget (hu_of hr) (pv 0) pe_str (fun _ _ => rfl)) (pv 1) (fun _ _ => rfl)) pe_non (nomark _)) (pw_or1 (pt_cmpR (op_ne) (pe_ix (k_ixl (K := K) rfl) (pe_dget (hu_of hr) (pv 0) pe_str (fun _ _ => rfl)) (pv 2) (fun _ _ => rfl)) (pv 1) (nomark _))))) (pss_one (ps_ret (pe_ix (k_ixl (K := K) rfl) (pe_lst (pa_cons pe_str (pa_cons pe_str pa_nil))) (pe_callTy call_int1 (by rfl) TX.z_int (by decide +kernel) (pa_cons (pe_cmpR (op_notN) (pe_ix (k_ixl (K := K) rfl) (pe_dget (hu_of hr) (pv 0) pe_str (fun _ _ => rfl)) (pv 1) (fun _ _ => rfl)) pe_non (nomark _)) pa_nil)) (fun _ _ => rfl)))) pss_nil) (pss_one (ps_ret (pe_call G_Lpassed (hr.mono (by decide)) (by rfl) TX.g_Lpassed k_Lpassed b_Lpassed .nil pE (pa_cons (pv 0) (pa_cons (pv 2) pa_nil)))))))), ?_⟩
    refine r_st (σ' := [some x, some y, some z, none]) rfl ?_
    try dsimp only [cxOf]
    obtain ⟨D, T, a, l, rfl, rfl, rfl, hT, hW, he, ho⟩ := h
    walk_at "sx"
    refine ⟨D, T, a, l, rfl, rfl, rfl, hT, ?_⟩
    walk_at "sx"
    refine r_ne rfl ?_
    walk_at "sx"
    cases hf : T.fault a l with
    | some w =>
      refine r_decN (fun g => ?_) (fun g => ?_)
      · walk_at "sx"
        exact he w T (Tb.giveR_err hf) H Fr.refl
      · exact absurd g (by cases w <;> decide +kernel)
    | none =>
      refine r_decN (fun g => absurd rfl g) (fun g => ?_)
      obtain ⟨a, l, rfl, rfl, ha, hl⟩ := Tb.fault_none hf
      have eR := Tb.giveR_nat ha hl
      walk_at "sx"
      refine r_dgWan hT ?_
      walk_at "sx"
      refine l_ixWan hT ha ?_
      walk_at "sx"
      refine ⟨rfl, ?_⟩
      walk_at "sx"
      have bad : ∀ w, T.giveR (a : Int) (l : Int) = (.error w, T) → (w = if T.wa a ≠ none then Wd.waits else Wd.notHeld) → ∀ D0 : Ends, D0.rt = Q → tRet (tOp (rIxL K) (tLst (tCons (tC (V.str "NotHeld")) (tCons (tC (V.str "Waits")) tNil))) (tCB (fun xs H Q => (∃ i, xs = [V.int i] ∧ Q (.int i) H) ∨ ∃ k, xs = [V.bl k] ∧ Q (.int (if k = true then 1 else 0)) H) (tCons (tOp (fun x y H Q => y = V.non ∧ Q (V.bl (!decide (x = V.non))) H) (tOp (rIxL K) (tDGet (tVar 0) (tC (V.str "wants"))) (tVar 1)) (tC V.non)) tNil))) D0 [some (.ref D.d), some (.int (a : Int)), some (.int (l : Int)), some (.str "")] H := by
        intro w e ew D0 eD
        subst eD
        walk_at "sx"
        refine r_newL (by show 2 ≤ 1000; decide) (fun t1 H1 ht1 et1 f1 => ?_)
        walk_at "sx"
        refine r_dgWan (hT.fr0 f1) ?_
        walk_at "sx"
        refine l_ixWan (hT.fr0 f1) ha ?_
        walk_at "sx"
        refine ⟨rfl, ?_⟩
        walk_at "sx"
        refine .inr ⟨_, rfl, ?_⟩
        have q := he w T e H1 f1
        by_cases g : T.wa a = none
        · rw [if_neg (fun z => z g)] at ew
          rw [decide_eq_true ((oV_non _).mpr g)]
          refine r_ixl (i := 0) et1 rfl ?_
          rw [ew] at q
          exact q
        · rw [if_pos g] at ew
          rw [decide_eq_false (fun z => g ((oV_non _).mp z))]
          refine r_ixl (i := 1) et1 rfl ?_
          rw [ew] at q
          exact q
      refine r_decN (fun g => r_T ?_) (fun g => ?_)
      · have g' : T.wa a ≠ none := fun z => g ((oV_non _).mpr z)
        exact bad .waits (by rw [eR, if_pos g']) (by rw [if_pos g']) _ rfl
      have gw : ¬ (T.wa a ≠ none) := fun z => z ((oV_non _).mp g)
      rw [if_neg gw] at eR
      walk_at "sx"
      refine r_dgOwn hT ?_
      walk_at "sx"
      refine l_ixOwn hT hl ?_
      walk_at "sx"
      refine r_ne (scal_oo _ _) ?_
      walk_at "sx"
      refine r_decN (fun g2 => ?_) (fun g2 => ?_)
      · have g3 : T.ow l ≠ some a := fun z => g2 ((oV_int _ _).mpr z)
        exact bad .notHeld (by rw [eR, if_pos g3]) (by rw [if_neg gw]) _ rfl
      rw [if_neg (fun z => z ((oV_int _ _).mp g2))] at eR
      walk_at "sx"
      exact ⟨D, T, l, rfl, rfl, hT, hl, fun x hx => (hW.lw l x hx).1, hW.len l, fun H1 hT1 f1 => ho _ _ eR H1 hT1 f1⟩
theorem sc_Lask : FnScope ["_law_t", "_law_agent", "_law_lock", "_law_word"] ["_law_t", "_law_agent", "_law_lock"] (defScope s_Lask) := ⟨rfl, rfl, rfl, by decide +kernel, rfl, by decide +kernel, by decide +kernel⟩
theorem ok_Lask (TX : Txt K mg) : OkF P w K mg base 2 (He.ga K "_law_ask") ["_law_t", "_law_agent", "_law_lock"] (sp_Lask K) := by
  obtain ⟨⟨fd_Lgot, G_Lgot, b_Lgot⟩, k_Lgot⟩ := (ok_Lgot TX : OkF P w K mg base _ _ _ _)
  obtain ⟨⟨fd_Lfault, G_Lfault, b_Lfault⟩, k_Lfault⟩ := (ok_Lfault TX : OkF P w K mg base _ _ _ _)
  refine okF TX.f_Lask sc_Lask (fun _ _ _ _ _ _ us hl => match us, hl with | [_, _, _], _ => rfl) (fun vs H Q E h => ?_) (fun cdv A outer s H vs Q E hr h => ?_)
  · obtain ⟨_, _, _, rfl, _⟩ := h
    rfl
  · obtain ⟨x, y, z, rfl, h⟩ := h
    refine ⟨_, (pss_cons (ps_set (i := 3) sc_Lask.nd rfl (Or.inl rfl) (pe_call G_Lfault (hr.mono (by decide)) (by rfl) TX.g_Lfault k_Lfault b_Lfault .nil pE (pa_cons (pv 0) (pa_cons (pv 1) (pa_cons (pv 2) pa_nil))))) (pss_cons (ps_if (pt_cmpR (op_ne) (pv 3) pe_str (nomark _)) (pss_one (ps_ret (pv 3))) pss_nil) (pss_cons (ps_if (PW.pt (pw_or (pt_cmpR (op_notN) (pe_ix (k_ixl (K := K) rfl) (pe_dget (hu_of hr) (pv 0) pe_str (fun _ _ => rfl)) (pv 1) (fun _ _ => rfl)) pe_non (nomark _)) (pw_or1 (pt_cmpR (op_eq) (pe_ix (k_ixl (K := K) rfl) (pe_dget (hu_of hr) (pv 0) pe_str (fun _ _ => rfl)) (pv 2) (fun _ _ => rfl)) (pv 1) (nomark _))))) (pss_one (ps_ret (pe_ix (k_ixl (K := K) rfl) (pe_lst (pa_cons pe_str (pa_cons pe_str pa_nil))) (pe_callTy call_int1 (by rfl) TX.z_int (by decide +kernel) (pa_cons (pe_cmpR (op_notN) (pe_ix (k_ixl (K := K) rfl) (pe_dget (hu_of hr) (pv 0) pe_str (fun _ _ => rfl)) (pv 1) (fun _ _ => rfl)) pe_non (nomark _)) pa_nil)) (fun _ _ => rfl)))) pss_nil) (pss_cons (ps_if (pt_cmpR (op_isN) (pe_ix (k_ixl (K := K) rfl) (pe_dget (hu_of hr) (pv 0) pe_str (fun _ _ => rfl)) (pv 2) (fun _ _ => rfl)) pe_non (nomark _)) (pss_cons (ps_expr (pe_call G_Lgot (hr.mono (by decide)) (by rfl) TX.g_Lgot k_Lgot b_Lgot .nil pE (pa_cons (pv 0) (pa_cons (pv 1) (pa_cons (pv 2) pa_nil))))) (pss_one (ps_ret pe_bl))) pss_nil) (pss_cons (ps_asg (pe_op op_cat (pe_ix (k_ixl (K := K) rfl) (pe_dget (hu_of hr) (pv 0) pe_str (fun _ _ => rfl)) (pv 2) (fun _ _ => rfl)) (pe_lst (pa_cons (pv 1) pa_nil))) (pg_sub (pe_dget (hu_of hr) (pv 0) pe_str (fun _ _ => rfl)) (pv 2) set_list)) (pss_cons (ps_asg (pv 2) (pg_sub (pe_dget (hu_of hr) (pv 0) pe_str (fun _ _ => rfl)) (pv 1) set_list)) (pss_cons (ps_asg (pe_op op_add (pe_ix (k_ixl (K := K) rfl) (pe_dget (hu_of hr) (pv 0) pe_str (fun _ _ => rfl)) (pv 1) (fun _ _ => rfl)) pe_int) (pg_sub (pe_dget (hu_of hr) (pv 0) pe_str (fun _ _ => rfl)) (pv 1) set_list)) (pss_one (ps_ret pe_bl))))))))), ?_⟩
    refine r_st (σ' := [some x, some y, some z, none]) rfl ?_
    try dsimp only [cxOf]
    obtain ⟨D, T, a, l, rfl, rfl, rfl, hT, hW, he, ho⟩ := h
    walk_at "sx"
    refine ⟨D, T, a, l, rfl, rfl, rfl, hT, ?_⟩
    walk_at "sx"
    refine r_ne rfl ?_
    walk_at "sx"
    cases hf : T.fault a l with
    | some w =>
      refine r_decN (fun g => ?_) (fun g => ?_)
      · walk_at "sx"
        exact he w T (Tb.askR_err hf) H Fr.refl
      · exact absurd g (by cases w <;> decide +kernel)
    | none =>
      refine r_decN (fun g => absurd rfl g) (fun g => ?_)
      obtain ⟨a, l, rfl, rfl, ha, hl⟩ := Tb.fault_none hf
      have eR := Tb.askR_nat ha hl
      walk_at "sx"
      refine r_dgWan hT ?_
      walk_at "sx"
      refine l_ixWan hT ha ?_
      walk_at "sx"
      refine ⟨rfl, ?_⟩
      walk_at "sx"
      have bad : ∀ w, T.askR (a : Int) (l : Int) = (.error w, T) → (w = if T.wa a ≠ none then Wd.waits else Wd.holds) → ∀ D0 : Ends, D0.rt = Q → tRet (tOp (rIxL K) (tLst (tCons (tC (V.str "Holds")) (tCons (tC (V.str "Waits")) tNil))) (tCB (fun xs H Q => (∃ i, xs = [V.int i] ∧ Q (.int i) H) ∨ ∃ k, xs = [V.bl k] ∧ Q (.int (if k = true then 1 else 0)) H) (tCons (tOp (fun x y H Q => y = V.non ∧ Q (V.bl (!decide (x = V.non))) H) (tOp (rIxL K) (tDGet (tVar 0) (tC (V.str "wants"))) (tVar 1)) (tC V.non)) tNil))) D0 [some (.ref D.d), some (.int (a : Int)), some (.int (l : Int)), some (.str "")] H := by
        intro w e ew D0 eD
        subst eD
        walk_at "sx"
        refine r_newL (by show 2 ≤ 1000; decide) (fun t1 H1 ht1 et1 f1 => ?_)
        walk_at "sx"
        refine r_dgWan (hT.fr0 f1) ?_
        walk_at "sx"
        refine l_ixWan (hT.fr0 f1) ha ?_
        walk_at "sx"
        refine ⟨rfl, ?_⟩
        walk_at "sx"
        refine .inr ⟨_, rfl, ?_⟩
        have q := he w T e H1 f1
        by_cases g : T.wa a = none
        · rw [if_neg (fun z => z g)] at ew
          rw [decide_eq_true ((oV_non _).mpr g)]
          refine r_ixl (i := 0) et1 rfl ?_
          rw [ew] at q
          exact q
        · rw [if_pos g] at ew
          rw [decide_eq_false (fun z => g ((oV_non _).mp z))]
          refine r_ixl (i := 1) et1 rfl ?_
          rw [ew] at q
          exact q
      refine r_decN (fun g => r_T ?_) (fun g => ?_)
      · have g' : T.wa a ≠ none := fun z => g ((oV_non _).mpr z)
        exact bad .waits (by rw [eR, if_pos g']) (by rw [if_pos g']) _ rfl
      have gw : ¬ (T.wa a ≠ none) := fun z => z ((oV_non _).mp g)
      rw [if_neg gw] at eR
      walk_at "sx"
      refine r_dgOwn hT ?_
      walk_at "sx"
      refine l_ixOwn hT hl ?_
      walk_at "sx"
      refine r_eq (scal_oo _ _) ?_
      walk_at "sx"
      refine r_dec (fun g2 => ?_) (fun g2 => ?_)
      · have g3 := (oV_int _ _).mp g2
        exact bad .holds (by rw [eR, if_pos g3]) (by rw [if_neg gw]) _ rfl
      rw [if_neg (fun z => g2 ((oV_int _ _).mpr z))] at eR
      walk_at "sx"
      refine r_dgOwn hT ?_
      walk_at "sx"
      refine l_ixOwn hT hl ?_
      walk_at "sx"
      refine ⟨rfl, ?_⟩
      walk_at "sx"
      refine r_dec (fun g3 => ?_) (fun g3 => ?_)
      · rw [if_pos ((oV_non _).mp g3)] at eR
        walk_at "sx"
        refine ⟨D, T, l, some a, rfl, rfl, rfl, hT, hl, fun H1 hT1 f1 => ?_⟩
        walk_at "sx"
        exact ho _ _ eR H1 hT1 f1
      rw [if_neg (fun z => g3 ((oV_non _).mpr z))] at eR
      walk_at "sx"
      refine r_dgLin hT ?_
      walk_at "sx"
      refine l_ixLin hT hl (fun b eb nb => ?_)
      walk_at "sx"
      refine r_newL (by show 1 ≤ 1000; decide) (fun t1 H1 ht1 et1 f1 => ?_)
      walk_at "sx"
      refine r_cat (f1.lst eb) et1 (by rw [List.length_map]; show _ + 1 ≤ 1000; have := hW.len l; omega) (fun t2 H2 ht2 et2 f2 => ?_)
      have hT1 := hT.fr0 f1
      have hT2 := hT1.fr0 f2
      have et2' : H2 t2 = some (.lst ((T.ln l ++ [a]).map nV)) := by rw [et2, List.map_append]; rfl
      walk_at "sx"
      refine r_dgLin hT2 ?_
      walk_at "sx"
      refine l_setLin hT2 hl et2' (hT1.fresh ht2) (fun H3 hT3 f3 => ?_)
      walk_at "sx"
      refine r_dgWan hT3 ?_
      walk_at "sx"
      refine l_setWan (o := some l) hT3 ha (fun H4 hT4 f4 => ?_)
      have ha4 : a < ({ T.line l (T.ln l ++ [a]) with wan := (T.line l (T.ln l ++ [a])).wan.set a (some l) } : Tb).n := by show a < (T.wan.set a (some l)).length; rw [List.length_set]; exact ha
      walk_at "sx"
      refine r_dgRou hT4 ?_
      walk_at "sx"
      refine l_ixRou hT4 ha4 ?_
      walk_at "sx"
      refine r_dgRou hT4 ?_
      walk_at "sx"
      refine l_setRou hT4 ha4 (T.ro a + 1) (fun H5 hT5 f5 => ?_)
      walk_at "sx"
      exact ho _ _ eR H5 hT5 ((((f1.trans f2).up.trans f3).trans f4).trans f5)
theorem sc_Ldue : FnScope ["_law_t", "_law_deed_here"] ["_law_t", "_law_deed_here"] (defScope s_Ldue) := ⟨rfl, rfl, rfl, by decide +kernel, rfl, by decide +kernel, by decide +kernel⟩
theorem ok_Ldue (TX : Txt K mg) : OkF P w K mg base 4 (He.ga K "_law_due") ["_law_t", "_law_deed_here"] (sp_Ldue K) := by
  obtain ⟨⟨fd_Lleave, G_Lleave, b_Lleave⟩, k_Lleave⟩ := (ok_Lleave TX : OkF P w K mg base _ _ _ _)
  obtain ⟨⟨fd_Lgive, G_Lgive, b_Lgive⟩, k_Lgive⟩ := (ok_Lgive TX : OkF P w K mg base _ _ _ _)
  obtain ⟨⟨fd_Lask, G_Lask, b_Lask⟩, k_Lask⟩ := (ok_Lask TX : OkF P w K mg base _ _ _ _)
  refine okF TX.f_Ldue sc_Ldue (fun _ _ _ _ _ _ us hl => match us, hl with | [_, _], _ => rfl) (fun vs H Q E h => ?_) (fun cdv A outer s H vs Q E hr h => ?_)
  · obtain ⟨_, _, rfl, _⟩ := h
    rfl
  · obtain ⟨x, y, rfl, h⟩ := h
    refine ⟨_, (pss_cons (ps_if (pt_cmpR (op_eq) (pe_ix (k_ixt (K := K) rfl) (pv 1) pe_int (fun _ _ => rfl)) pe_str (nomark _)) (pss_one (ps_ret (pe_call G_Lask (hr.mono (by decide)) (by rfl) TX.g_Lask k_Lask b_Lask .nil pE (pa_cons (pv 0) (pa_cons (pe_ix (k_ixt (K := K) rfl) (pv 1) pe_int (fun _ _ => rfl)) (pa_cons (pe_ix (k_ixt (K := K) rfl) (pv 1) pe_int (fun _ _ => rfl)) pa_nil)))))) pss_nil) (pss_cons (ps_if (pt_cmpR (op_eq) (pe_ix (k_ixt (K := K) rfl) (pv 1) pe_int (fun _ _ => rfl)) pe_str (nomark _)) (pss_one (ps_ret (pe_call G_Lgive (hr.mono (by decide)) (by rfl) TX.g_Lgive k_Lgive b_Lgive .nil pE (pa_cons (pv 0) (pa_cons (pe_ix (k_ixt (K := K) rfl) (pv 1) pe_int (fun _ _ => rfl)) (pa_cons (pe_ix (k_ixt (K := K) rfl) (pv 1) pe_int (fun _ _ => rfl)) pa_nil)))))) pss_nil) (pss_one (ps_ret (pe_call G_Lleave (hr.mono (by decide)) (by rfl) TX.g_Lleave k_Lleave b_Lleave .nil pE (pa_cons (pv 0) (pa_cons (pe_ix (k_ixt (K := K) rfl) (pv 1) pe_int (fun _ _ => rfl)) pa_nil))))))), ?_⟩
    refine r_st (σ' := [some x, some y]) rfl ?_
    try dsimp only [cxOf]
    obtain ⟨D, T, p, dd, rfl, rfl, hD, hW, hp, hq⟩ := h
    walk_at "sx"
    cases dd with
    | ask a l =>
      refine r_ixt (i := 0) hp rfl ?_
      walk_at "sx"
      refine r_eq rfl ?_
      walk_at "sx"
      refine r_dec (fun _ => ?_) (fun g => absurd rfl g)
      walk_at "sx"
      refine r_ixt (i := 1) hp rfl ?_
      walk_at "sx"
      refine r_ixt (i := 2) hp rfl ?_
      walk_at "sx"
      refine ⟨D, T, a, l, rfl, rfl, rfl, hD, hW, fun w T' e H1 f1 => ?_, fun b T' e H1 hD1 f1 => ?_⟩
      · have eT : T' = T := by have := Tb.askR_same e; exact this
        refine hq _ H1 ?_ ?_ f1.up
        · show LdAt H1 D (T.askR a l).2
          rw [e, eT]; exact hD.fr0 f1
        · show ResAt H1 H _ ((T.askR a l).1.map Out.b)
          rw [e]; rfl
      · refine hq _ H1 ?_ ?_ f1
        · show LdAt H1 D (T.askR a l).2
          rw [e]; exact hD1
        · show ResAt H1 H _ ((T.askR a l).1.map Out.b)
          rw [e]; rfl
    | give a l =>
      refine r_ixt (i := 0) hp rfl ?_
      walk_at "sx"
      refine r_eq rfl ?_
      walk_at "sx"
      refine r_dec (fun g => absurd g (by decide +kernel)) (fun _ => ?_)
      walk_at "sx"
      refine r_ixt (i := 0) hp rfl ?_
      walk_at "sx"
      refine r_eq rfl ?_
      walk_at "sx"
      refine r_dec (fun _ => ?_) (fun g => absurd rfl g)
      walk_at "sx"
      refine r_ixt (i := 1) hp rfl ?_
      walk_at "sx"
      refine r_ixt (i := 2) hp rfl ?_
      walk_at "sx"
      refine ⟨D, T, a, l, rfl, rfl, rfl, hD, hW, fun w T' e H1 f1 => ?_, fun b T' e H1 hD1 f1 => ?_⟩
      · have eT : T' = T := by have := Tb.giveR_same e; exact this
        refine hq _ H1 ?_ ?_ f1.up
        · show LdAt H1 D (T.giveR a l).2
          rw [e, eT]; exact hD.fr0 f1
        · show ResAt H1 H _ ((T.giveR a l).1.map Out.o)
          rw [e]; rfl
      · refine hq _ H1 ?_ ?_ f1
        · show LdAt H1 D (T.giveR a l).2
          rw [e]; exact hD1
        · show ResAt H1 H _ ((T.giveR a l).1.map Out.o)
          rw [e]; rfl
    | leave a =>
      refine r_ixt (i := 0) hp rfl ?_
      walk_at "sx"
      refine r_eq rfl ?_
      walk_at "sx"
      refine r_dec (fun g => absurd g (by decide +kernel)) (fun _ => ?_)
      walk_at "sx"
      refine r_ixt (i := 0) hp rfl ?_
      walk_at "sx"
      refine r_eq rfl ?_
      walk_at "sx"
      refine r_dec (fun g => absurd g (by decide +kernel)) (fun _ => ?_)
      walk_at "sx"
      refine r_ixt (i := 1) hp rfl ?_
      walk_at "sx"
      refine ⟨D, T, a, rfl, rfl, hD, hW, fun w T' e => ?_, fun b T' e q H1 hD1 f1 hq0 hl => ?_⟩
      · have eT : T' = T := Tb.leaveR_same e
        refine hq _ H ?_ ?_ Fr.refl
        · show LdAt H D (T.leaveR a).2
          rw [e, eT]; exact hD
        · show ResAt H H _ ((T.leaveR a).1.map Out.g)
          rw [e]; rfl
      · refine hq _ H1 ?_ ?_ f1
        · show LdAt H1 D (T.leaveR a).2
          rw [e]; exact hD1
        · show ResAt H1 H _ ((T.leaveR a).1.map Out.g)
          rw [e]
          exact ⟨q, rfl, hq0, hl, Tb.leaveR_len hW e⟩
theorem sc_t_need_free_to : FnScope ["self", "agent"] ["self", "agent"] (defScope s_t_need_free_to) := ⟨rfl, rfl, rfl, by decide +kernel, rfl, by decide +kernel, by decide +kernel⟩
theorem ok_t_need_free_to (TX : Txt K mg) : OkF P w K mg base 1 (He.ma K (He.ga K "Table") "need_free_to") ["self", "agent"] (sp_t_need_free_to K) := by
  refine okF TX.f_t_need_free_to sc_t_need_free_to (fun _ _ _ _ _ _ us hl => match us, hl with | [_, _], _ => rfl) (fun vs H Q E h => ?_) (fun cdv A outer s H vs Q E hr h => ?_)
  · obtain ⟨_, _, rfl, _⟩ := h
    rfl
  · obtain ⟨x, y, rfl, h⟩ := h
    refine ⟨_, (pss_one (ps_if (pt_cmpR (op_notN) (pe_ix (k_ixl (K := K) rfl) (k_fld (K := K) rfl (pv 0) rfl) (pv 1) (fun _ _ => rfl)) pe_non (nomark _)) (pss_one (ps_raise rfl (takes_of rfl rfl rfl rfl) (pmk_own PySem.F.excBase_ValueError TX.e_Waits.ex TX.e_Waits.g TX.e_Waits.k (raises_own TX.e_Waits.b TX.e_Waits.t) rfl))) pss_nil)), ?_⟩
    refine r_st (σ' := [some x, some y]) rfl ?_
    try dsimp only [cxOf]
    obtain ⟨A, T, a, rfl, rfl, hT, ha, h1, h2⟩ := h
    walk_at "sx"
    refine r_wants TX.tb hT ?_
    walk_at "sx"
    refine r_ixWan hT ha ?_
    walk_at "sx"
    refine ⟨rfl, ?_⟩
    walk_at "sx"
    refine r_decN (fun g => ?_) (fun g => ?_)
    · exact h2 (fun z => g ((oV_non _).mpr z))
    · walk_at "sx"
      exact h1 ((oV_non _).mp g)
theorem sc_t_need_both : FnScope ["self", "agent", "lock"] ["self", "agent", "lock"] (defScope s_t_need_both) := ⟨rfl, rfl, rfl, by decide +kernel, rfl, by decide +kernel, by decide +kernel⟩
theorem ok_t_need_both (TX : Txt K mg) : OkF P w K mg base 2 (He.ma K (He.ga K "Table") "need_both") ["self", "agent", "lock"] (sp_t_need_both K) := by
  obtain ⟨⟨fd_t_need_lock, G_t_need_lock, b_t_need_lock⟩, k_t_need_lock⟩ := (ok_t_need_lock TX : OkF P w K mg base _ _ _ _)
  obtain ⟨⟨fd_t_need_agent, G_t_need_agent, b_t_need_agent⟩, k_t_need_agent⟩ := (ok_t_need_agent TX : OkF P w K mg base _ _ _ _)
  refine okF TX.f_t_need_both sc_t_need_both (fun _ _ _ _ _ _ us hl => match us, hl with | [_, _, _], _ => rfl) (fun vs H Q E h => ?_) (fun cdv A outer s H vs Q E hr h => ?_)
  · obtain ⟨_, _, _, rfl, _⟩ := h
    rfl
  · obtain ⟨x, y, z, rfl, h⟩ := h
    refine ⟨_, (pss_cons (ps_expr (pe_meth (pv 0) TX.c_Table TX.m_t_need_agent G_t_need_agent (hr.mono (by decide)) b_t_need_agent .nil pE (pa_cons (pv 1) pa_nil))) (pss_one (ps_expr (pe_meth (pv 0) TX.c_Table TX.m_t_need_lock G_t_need_lock (hr.mono (by decide)) b_t_need_lock .nil pE (pa_cons (pv 2) pa_nil))))), ?_⟩
    refine r_st (σ' := [some x, some y, some z]) rfl ?_
    try dsimp only [cxOf]
    obtain ⟨A, T, a, l, rfl, rfl, rfl, hT, h1, h2⟩ := h
    walk_at "sx"
    refine r_tmeth hT (by decide +kernel) ?_
    walk_at "sx"
    refine ⟨A, T, a, rfl, rfl, hT, fun ga => ?_, fun ga => h2 _ (by unfold Tb.fault; rw [if_neg ga])⟩
    walk_at "sx"
    refine r_tmeth hT (by decide +kernel) ?_
    walk_at "sx"
    refine ⟨A, T, l, rfl, rfl, hT, fun gl => ?_, fun gl => h2 _ (by unfold Tb.fault; rw [if_pos ga, if_neg gl])⟩
    exact h1 (by unfold Tb.fault; rw [if_pos ga, if_pos gl])
theorem sc_t_give : FnScope ["self", "agent", "lock"] ["self", "agent", "lock"] (defScope s_t_give) := ⟨rfl, rfl, rfl, by decide +kernel, rfl, by decide +kernel, by decide +kernel⟩
theorem ok_t_give (TX : Txt K mg) : OkF P w K mg base 3 (He.ma K (He.ga K "Table") "give") ["self", "agent", "lock"] (sp_t_give K) := by
  obtain ⟨⟨fd_t_pass_on, G_t_pass_on, b_t_pass_on⟩, k_t_pass_on⟩ := (ok_t_pass_on TX : OkF P w K mg base _ _ _ _)
  obtain ⟨⟨fd_t_need_free_to, G_t_need_free_to, b_t_need_free_to⟩, k_t_need_free_to⟩ := (ok_t_need_free_to TX : OkF P w K mg base _ _ _ _)
  obtain ⟨⟨fd_t_need_both, G_t_need_both, b_t_need_both⟩, k_t_need_both⟩ := (ok_t_need_both TX : OkF P w K mg base _ _ _ _)
  refine okF TX.f_t_give sc_t_give (fun _ _ _ _ _ _ us hl => match us, hl with | [_, _, _], _ => rfl) (fun vs H Q E h => ?_) (fun cdv A outer s H vs Q E hr h => ?_)
  · obtain ⟨_, _, _, rfl, _⟩ := h
    rfl
  · obtain ⟨x, y, z, rfl, h⟩ := h
    refine ⟨_, (pss_cons (ps_expr (pe_meth (pv 0) TX.c_Table TX.m_t_need_both G_t_need_both (hr.mono (by decide)) b_t_need_both .nil pE (pa_cons (pv 1) (pa_cons (pv 2) pa_nil)))) (pss_cons (ps_expr (pe_meth (pv 0) TX.c_Table TX.m_t_need_free_to G_t_need_free_to (hr.mono (by decide)) b_t_need_free_to .nil pE (pa_cons (pv 1) pa_nil))) (pss_cons (ps_if (pt_cmpR (op_ne) (pe_ix (k_ixl (K := K) rfl) (k_fld (K := K) rfl (pv 0) rfl) (pv 2) (fun _ _ => rfl)) (pv 1) (nomark _)) (pss_one (ps_raise rfl (takes_of rfl rfl rfl rfl) (pmk_own PySem.F.excBase_ValueError TX.e_NotHeld.ex TX.e_NotHeld.g TX.e_NotHeld.k (raises_own TX.e_NotHeld.b TX.e_NotHeld.t) rfl))) pss_nil) (pss_one (ps_ret (pe_meth (pv 0) TX.c_Table TX.m_t_pass_on G_t_pass_on (hr.mono (by decide)) b_t_pass_on .nil pE (pa_cons (pv 2) pa_nil))))))), ?_⟩
    refine r_st (σ' := [some x, some y, some z]) rfl ?_
    try dsimp only [cxOf]
    obtain ⟨A, T, a, l, rfl, rfl, rfl, hT, hW, he, ho⟩ := h
    walk_at "sx"
    refine r_tmeth hT (by decide +kernel) ?_
    walk_at "sx"
    refine ⟨A, T, a, l, rfl, rfl, rfl, hT, fun g => ?_, fun w g => he w T (Tb.giveR_err g)⟩
    obtain ⟨a, l, rfl, rfl, ha, hl⟩ := Tb.fault_none g
    have eR := Tb.giveR_nat ha hl
    walk_at "sx"
    refine r_tmeth hT (by decide +kernel) ?_
    walk_at "sx"
    refine ⟨A, T, a, rfl, rfl, hT, ha, fun gw => ?_, fun gw => he _ T (by rw [eR, if_pos gw])⟩
    rw [if_neg (fun z => z gw)] at eR
    walk_at "sx"
    refine r_owners TX.tb hT ?_
    walk_at "sx"
    refine r_ixOwn hT hl ?_
    walk_at "sx"
    refine r_ne (scal_oo _ _) ?_
    walk_at "sx"
    refine r_decN (fun go => ?_) (fun go => ?_)
    · exact he _ T (by rw [eR, if_pos (fun z => go ((oV_int _ _).mpr z))])
    rw [if_neg (fun z => z ((oV_int _ _).mp go))] at eR
    walk_at "sx"
    refine r_tmeth hT (by decide +kernel) ?_
    walk_at "sx"
    exact ⟨A, T, l, rfl, rfl, hT, hl, fun x hx => (hW.lw l x hx).1, fun H1 hT1 f1 => ho _ _ eR H1 hT1 f1⟩
theorem sc_t_ask : FnScope ["self", "agent", "lock"] ["self", "agent", "lock"] (defScope s_t_ask) := ⟨rfl, rfl, rfl, by decide +kernel, rfl, by decide +kernel, by decide +kernel⟩
theorem ok_t_ask (TX : Txt K mg) : OkF P w K mg base 3 (He.ma K (He.ga K "Table") "ask") ["self", "agent", "lock"] (sp_t_ask K) := by
  obtain ⟨⟨fd_t_take, G_t_take, b_t_take⟩, k_t_take⟩ := (ok_t_take TX : OkF P w K mg base _ _ _ _)
  obtain ⟨⟨fd_t_need_free_to, G_t_need_free_to, b_t_need_free_to⟩, k_t_need_free_to⟩ := (ok_t_need_free_to TX : OkF P w K mg base _ _ _ _)
  obtain ⟨⟨fd_t_need_both, G_t_need_both, b_t_need_both⟩, k_t_need_both⟩ := (ok_t_need_both TX : OkF P w K mg base _ _ _ _)
  refine okF TX.f_t_ask sc_t_ask (fun _ _ _ _ _ _ us hl => match us, hl with | [_, _, _], _ => rfl) (fun vs H Q E h => ?_) (fun cdv A outer s H vs Q E hr h => ?_)
  · obtain ⟨_, _, _, rfl, _⟩ := h
    rfl
  · obtain ⟨x, y, z, rfl, h⟩ := h
    refine ⟨_, (pss_cons (ps_expr (pe_meth (pv 0) TX.c_Table TX.m_t_need_both G_t_need_both (hr.mono (by decide)) b_t_need_both .nil pE (pa_cons (pv 1) (pa_cons (pv 2) pa_nil)))) (pss_cons (ps_expr (pe_meth (pv 0) TX.c_Table TX.m_t_need_free_to G_t_need_free_to (hr.mono (by decide)) b_t_need_free_to .nil pE (pa_cons (pv 1) pa_nil))) (pss_cons (ps_if (pt_cmpR (op_eq) (pe_ix (k_ixl (K := K) rfl) (k_fld (K := K) rfl (pv 0) rfl) (pv 2) (fun _ _ => rfl)) (pv 1) (nomark _)) (pss_one (ps_raise rfl (takes_of rfl rfl rfl rfl) (pmk_own PySem.F.excBase_ValueError TX.e_Holds.ex TX.e_Holds.g TX.e_Holds.k (raises_own TX.e_Holds.b TX.e_Holds.t) rfl))) pss_nil) (pss_cons (ps_if (pt_cmpR (op_isN) (pe_ix (k_ixl (K := K) rfl) (k_fld (K := K) rfl (pv 0) rfl) (pv 2) (fun _ _ => rfl)) pe_non (nomark _)) (pss_cons (ps_expr (pe_meth (pv 0) TX.c_Table TX.m_t_take G_t_take (hr.mono (by decide)) b_t_take .nil pE (pa_cons (pv 1) (pa_cons (pv 2) pa_nil)))) (pss_one (ps_ret pe_bl))) pss_nil) (pss_cons (ps_expr (pe_bm PySem.F.plainAttrs_list PySem.F.slot_list_append PySem.F.type_list_append mt_append (pe_ix (k_ixl (K := K) rfl) (k_fld (K := K) rfl (pv 0) rfl) (pv 2) (fun _ _ => rfl)) (pa_cons (pv 1) pa_nil))) (pss_cons (ps_asg (pv 2) (pg_sub (k_fld (K := K) rfl (pv 0) rfl) (pv 1) set_list)) (pss_cons (ps_asg (pe_op op_add (pe_ix (k_ixl (K := K) rfl) (k_fld (K := K) rfl (pv 0) rfl) (pv 1) (fun _ _ => rfl)) pe_int) (pg_sub (k_fld (K := K) rfl (pv 0) rfl) (pv 1) set_list)) (pss_one (ps_ret pe_bl))))))))), ?_⟩
    refine r_st (σ' := [some x, some y, some z]) rfl ?_
    try dsimp only [cxOf]
    obtain ⟨A, T, a, l, rfl, rfl, rfl, hT, hW, he, ho⟩ := h
    walk_at "sx"
    refine r_tmeth hT (by decide +kernel) ?_
    walk_at "sx"
    refine ⟨A, T, a, l, rfl, rfl, rfl, hT, fun g => ?_, fun w g => he w T (Tb.askR_err g)⟩
    obtain ⟨a, l, rfl, rfl, ha, hl⟩ := Tb.fault_none g
    have eR := Tb.askR_nat ha hl
    walk_at "sx"
    refine r_tmeth hT (by decide +kernel) ?_
    walk_at "sx"
    refine ⟨A, T, a, rfl, rfl, hT, ha, fun gw => ?_, fun gw => he _ T (by rw [eR, if_pos gw])⟩
    rw [if_neg (fun z => z gw)] at eR
    walk_at "sx"
    refine r_owners TX.tb hT ?_
    walk_at "sx"
    refine r_ixOwn hT hl ?_
    walk_at "sx"
    refine r_eq (scal_oo _ _) ?_
    walk_at "sx"
    refine r_dec (fun go => ?_) (fun go => ?_)
    · exact he _ T (by rw [eR, if_pos ((oV_int _ _).mp go)])
    rw [if_neg (fun z => go ((oV_int _ _).mpr z))] at eR
    walk_at "sx"
    refine r_owners TX.tb hT ?_
    walk_at "sx"
    refine r_ixOwn hT hl ?_
    walk_at "sx"
    refine ⟨rfl, ?_⟩
    walk_at "sx"
    refine r_dec (fun gn => ?_) (fun gn => ?_)
    · rw [if_pos ((oV_non _).mp gn)] at eR
      walk_at "sx"
      refine r_tmeth hT (by decide +kernel) ?_
      walk_at "sx"
      refine ⟨A, T, a, l, rfl, rfl, rfl, hT, hl, fun H1 hT1 f1 => ?_⟩
      walk_at "sx"
      exact ho _ _ eR H1 hT1 f1
    rw [if_neg (fun z => gn ((oV_non _).mpr z))] at eR
    walk_at "sx"
    refine r_lines TX.tb hT ?_
    walk_at "sx"
    refine r_ixLin hT hl (fun b eb hb => r_tyL hb ?_)
    walk_at "sx"
    refine r_appLine hT (hW.len l) eb (fun H1 hT1 f1 => ?_)
    walk_at "sx"
    refine r_wants TX.tb hT1 ?_
    walk_at "sx"
    refine r_setWan hT1 ha (some l) (fun H2 hT2 f2 => ?_)
    have ha2 : a < ({ (T.line l (T.ln l ++ [a])) with wan := T.wan.set a (some l) } : Tb).n := by show a < (T.wan.set a (some l)).length; rw [List.length_set]; exact ha
    walk_at "sx"
    refine r_rounds TX.tb hT2 ?_
    walk_at "sx"
    refine r_ixRou hT2 ha2 ?_
    walk_at "sx"
    refine r_rounds TX.tb hT2 ?_
    walk_at "sx"
    refine r_setRou hT2 ha2 (T.ro a + 1) (fun H3 hT3 f3 => ?_)
    walk_at "sx"
    exact ho _ _ eR H3 hT3 ((f1.trans f2).trans f3)
theorem sc_Ldoes : FnScope ["_law_table_here", "_law_deed_here"] ["_law_table_here", "_law_deed_here"] (defScope s_Ldoes) := ⟨rfl, rfl, rfl, by decide +kernel, rfl, by decide +kernel, by decide +kernel⟩
theorem ok_Ldoes (TX : Txt K mg) : OkF P w K mg base 4 (He.ga K "_law_does") ["_law_table_here", "_law_deed_here"] (sp_Ldoes K) := by
  obtain ⟨⟨fd_t_leave, G_t_leave, b_t_leave⟩, k_t_leave⟩ := (ok_t_leave TX : OkF P w K mg base _ _ _ _)
  obtain ⟨⟨fd_t_give, G_t_give, b_t_give⟩, k_t_give⟩ := (ok_t_give TX : OkF P w K mg base _ _ _ _)
  obtain ⟨⟨fd_t_ask, G_t_ask, b_t_ask⟩, k_t_ask⟩ := (ok_t_ask TX : OkF P w K mg base _ _ _ _)
  refine okF TX.f_Ldoes sc_Ldoes (fun _ _ _ _ _ _ us hl => match us, hl with | [_, _], _ => rfl) (fun vs H Q E h => ?_) (fun cdv A outer s H vs Q E hr h => ?_)
  · obtain ⟨_, _, rfl, _⟩ := h
    rfl
  · obtain ⟨x, y, rfl, h⟩ := h
    refine ⟨_, (pss_cons (ps_if (pt_cmpR (op_eq) (pe_ix (k_ixt (K := K) rfl) (pv 1) pe_int (fun _ _ => rfl)) pe_str (nomark _)) (pss_one (ps_ret (pe_meth (pv 0) TX.c_Table TX.m_t_ask G_t_ask (hr.mono (by decide)) b_t_ask .nil pE (pa_cons (pe_ix (k_ixt (K := K) rfl) (pv 1) pe_int (fun _ _ => rfl)) (pa_cons (pe_ix (k_ixt (K := K) rfl) (pv 1) pe_int (fun _ _ => rfl)) pa_nil))))) pss_nil) (pss_cons (ps_if (pt_cmpR (op_eq) (pe_ix (k_ixt (K := K) rfl) (pv 1) pe_int (fun _ _ => rfl)) pe_str (nomark _)) (pss_one (ps_ret (pe_meth (pv 0) TX.c_Table TX.m_t_give G_t_give (hr.mono (by decide)) b_t_give .nil pE (pa_cons (pe_ix (k_ixt (K := K) rfl) (pv 1) pe_int (fun _ _ => rfl)) (pa_cons (pe_ix (k_ixt (K := K) rfl) (pv 1) pe_int (fun _ _ => rfl)) pa_nil))))) pss_nil) (pss_one (ps_ret (pe_meth (pv 0) TX.c_Table TX.m_t_leave G_t_leave (hr.mono (by decide)) b_t_leave .nil pE (pa_cons (pe_ix (k_ixt (K := K) rfl) (pv 1) pe_int (fun _ _ => rfl)) pa_nil)))))), ?_⟩
    refine r_st (σ' := [some x, some y]) rfl ?_
    try dsimp only [cxOf]
    obtain ⟨A, T, p, dd, rfl, rfl, hT, hW, hp, he, hq⟩ := h
    walk_at "sx"
    cases dd with
    | ask a l =>
      refine r_ixt (i := 0) hp rfl ?_
      walk_at "sx"
      refine r_eq rfl ?_
      walk_at "sx"
      refine r_dec (fun _ => ?_) (fun g => absurd rfl g)
      walk_at "sx"
      refine r_tmeth hT (by decide +kernel) ?_
      walk_at "sx"
      refine r_ixt (i := 1) hp rfl ?_
      walk_at "sx"
      refine r_ixt (i := 2) hp rfl ?_
      walk_at "sx"
      refine ⟨A, T, a, l, rfl, rfl, rfl, hT, hW, fun w T' e => he w (by show (T.askR a l).1.map Out.b = _; rw [e]; rfl), fun b T' e H1 hT1 f1 => ?_⟩
      refine hq _ (.b b) H1 (by show (T.askR a l).1.map Out.b = _; rw [e]; rfl) ?_ rfl f1
      show TbK K H1 A (T.askR a l).2
      rw [e]; exact hT1
    | give a l =>
      refine r_ixt (i := 0) hp rfl ?_
      walk_at "sx"
      refine r_eq rfl ?_
      walk_at "sx"
      refine r_dec (fun g => absurd g (by decide +kernel)) (fun _ => ?_)
      walk_at "sx"
      refine r_ixt (i := 0) hp rfl ?_
      walk_at "sx"
      refine r_eq rfl ?_
      walk_at "sx"
      refine r_dec (fun _ => ?_) (fun g => absurd rfl g)
      walk_at "sx"
      refine r_tmeth hT (by decide +kernel) ?_
      walk_at "sx"
      refine r_ixt (i := 1) hp rfl ?_
      walk_at "sx"
      refine r_ixt (i := 2) hp rfl ?_
      walk_at "sx"
      refine ⟨A, T, a, l, rfl, rfl, rfl, hT, hW, fun w T' e => he w (by show (T.giveR a l).1.map Out.o = _; rw [e]; rfl), fun b T' e H1 hT1 f1 => ?_⟩
      refine hq _ (.o b) H1 (by show (T.giveR a l).1.map Out.o = _; rw [e]; rfl) ?_ rfl f1
      show TbK K H1 A (T.giveR a l).2
      rw [e]; exact hT1
    | leave a =>
      refine r_ixt (i := 0) hp rfl ?_
      walk_at "sx"
      refine r_eq rfl ?_
      walk_at "sx"
      refine r_dec (fun g => absurd g (by decide +kernel)) (fun _ => ?_)
      walk_at "sx"
      refine r_ixt (i := 0) hp rfl ?_
      walk_at "sx"
      refine r_eq rfl ?_
      walk_at "sx"
      refine r_dec (fun g => absurd g (by decide +kernel)) (fun _ => ?_)
      walk_at "sx"
      refine r_tmeth hT (by decide +kernel) ?_
      walk_at "sx"
      refine r_ixt (i := 1) hp rfl ?_
      walk_at "sx"
      refine ⟨A, T, a, rfl, rfl, hT, hW, fun w T' e => he w (by show (T.leaveR a).1.map Out.g = _; rw [e]; rfl), fun b T' e q H1 hT1 f1 hq0 hl => ?_⟩
      refine hq _ (.g b) H1 (by show (T.leaveR a).1.map Out.g = _; rw [e]; rfl) ?_ ⟨q, rfl, hq0, hl, Tb.leaveR_len hW e⟩ f1
      show TbK K H1 A (T.leaveR a).2
      rw [e]; exact hT1
theorem sc_Ldeed : FnScope ["_law_state", "_law_t", "_law_agent", "_law_lock", "_law_free", "_law_one", "_law_way", "_law_owner"] ["_law_state", "_law_t"] (defScope s_Ldeed) := ⟨rfl, rfl, rfl, by decide +kernel, rfl, by decide +kernel, by decide +kernel⟩
theorem ok_Ldeed (TX : Txt K mg) : OkF P w K mg base 2 (He.ga K "_law_deed") ["_law_state", "_law_t"] (sp_Ldeed K) := by
  obtain ⟨⟨fd_Ldrawn, G_Ldrawn, b_Ldrawn⟩, k_Ldrawn⟩ := (ok_Ldrawn TX : OkF P w K mg base _ _ _ _)
  refine okF TX.f_Ldeed sc_Ldeed (fun _ _ _ _ _ _ us hl => match us, hl with | [_, _], _ => rfl) (fun vs H Q E h => ?_) (fun cdv A outer s H vs Q E hr h => ?_)
  · obtain ⟨_, _, rfl, _⟩ := h
    rfl
  · obtain ⟨x, y, rfl, h⟩ := h
    refine ⟨_, (pss_cons (ps_set (i := 2) sc_Ldeed.nd rfl (Or.inl rfl) (pe_call G_Ldrawn (hr.mono (by decide)) (by rfl) TX.g_Ldrawn k_Ldrawn b_Ldrawn .nil pE (pa_cons (pv 0) (pa_cons (pe_callB (k_len (K := K) rfl) (by rfl) TX.z_len (by decide +kernel) (pa_cons (pe_dget (hu_of hr) (pv 1) pe_str (fun _ _ => rfl)) pa_nil)) pa_nil)))) (pss_cons (ps_set (i := 3) sc_Ldeed.nd rfl (Or.inl rfl) (pe_call G_Ldrawn (hr.mono (by decide)) (by rfl) TX.g_Ldrawn k_Ldrawn b_Ldrawn .nil pE (pa_cons (pv 0) (pa_cons (pe_callB (k_len (K := K) rfl) (by rfl) TX.z_len (by decide +kernel) (pa_cons (pe_dget (hu_of hr) (pv 1) pe_str (fun _ _ => rfl)) pa_nil)) pa_nil)))) (pss_cons (ps_setLc (i := 4) (own := [("_law_one", 5)]) (g := gName 5) rfl sc_Ldeed.nd rfl rfl (sw_true rfl rfl rfl (by decide +kernel)) (pi_range1 (by rfl) TX.z_range (pa_cons (pe_callB (k_len (K := K) rfl) (by rfl) TX.z_len (by decide +kernel) (pa_cons (pe_dget (hu_of hr) (pv 1) pe_str (fun _ _ => rfl)) pa_nil)) pa_nil)) (blkOk_by (N := ["_law_state", "_law_t", "_law_agent", "_law_lock", "_law_free", "_law_one", "_law_way", "_law_owner"]) (sc := defScope s_Ldeed) (by decide +kernel)) (fun _ _ _ _ _ => pg_name (i := 5) sc_Ldeed.nd rfl (Or.inl rfl)) (fun _ _ _ _ _ => by exact (pts_one (pt_cmpR (op_isN) (pe_ix (k_ixl (K := K) rfl) (pe_dget (hu_of hr) (pv 1) pe_str (fun _ _ => rfl)) (pv 5) (fun _ _ => rfl)) pe_non (nomark _)))) (fun _ _ _ _ _ => by exact (pv 5))) (pss_cons (ps_set (i := 6) sc_Ldeed.nd rfl (Or.inl rfl) (pe_call G_Ldrawn (hr.mono (by decide)) (by rfl) TX.g_Ldrawn k_Ldrawn b_Ldrawn .nil pE (pa_cons (pv 0) (pa_cons pe_int pa_nil)))) (pss_cons (ps_if (pt_cmpR (op_lt) (pv 6) pe_int (nomark _)) (pss_one (ps_ret (pe_tup (pa_cons pe_str (pa_cons (pe_ix (k_ixl (K := K) rfl) (pe_op op_cat (pv 4) (pe_lst (pa_cons (pv 2) pa_nil))) (pe_call G_Ldrawn (hr.mono (by decide)) (by rfl) TX.g_Ldrawn k_Ldrawn b_Ldrawn .nil pE (pa_cons (pv 0) (pa_cons (pe_op op_add (pe_callB (k_len (K := K) rfl) (by rfl) TX.z_len (by decide +kernel) (pa_cons (pv 4) pa_nil)) pe_int) pa_nil))) (fun _ _ => rfl)) (pa_cons (pv 3) pa_nil)))))) pss_nil) (pss_cons (ps_if (pt_cmpR (op_lt) (pv 6) pe_int (nomark _)) (pss_cons (ps_set (i := 7) sc_Ldeed.nd rfl (Or.inl rfl) (pe_ix (k_ixl (K := K) rfl) (pe_dget (hu_of hr) (pv 1) pe_str (fun _ _ => rfl)) (pv 3) (fun _ _ => rfl))) (pss_one (ps_ret (pe_tup (pa_cons pe_str (pa_cons (pe_ifExp (pt_cmpR (op_isN) (pv 7) pe_non (nomark _)) (pv 2) (pv 7)) (pa_cons (pv 3) pa_nil))))))) pss_nil) (pss_cons (ps_if (pt_cmpR (op_eq) (pv 6) pe_int (nomark _)) (pss_one (ps_ret (pe_tup (pa_cons pe_str (pa_cons (pv 2) pa_nil))))) pss_nil) (pss_one (ps_ret (pe_tup (pa_cons pe_str (pa_cons (pv 2) (pa_cons (pv 3) pa_nil))))))))))))), ?_⟩
    refine r_st (σ' := [some x, some y, none, none, none, none, none, none]) rfl ?_
    try dsimp only [cxOf]
    obtain ⟨st, sc, ns, D, T, rfl, rfl, hS, hF, hD, hbs, hns, hq⟩ := h
    have hn := hD.sz.n8
    have hm := hD.sz.m12
    have hn1 := hD.sz.n1
    have hm1 := hD.sz.m1
    have big : ∀ n : Nat, n ≤ 12 → (n : Int) < 2 ^ 200 := fun n h => Int.lt_of_le_of_lt (show (n : Int) ≤ 12 by omega) (by decide)
    have keep : ∀ {H1 : Hp}, Fr (Only1 st) H H1 → LdAt H1 D T := fun f => hD.fr f (fun b hb => hb ▸ hbs) (fun b hb z => hns (z ▸ hb))
    walk_at "sx"
    refine r_dgWan hD ?_
    walk_at "sx"
    refine l_lenWan hD ?_
    walk_at "sx"
    refine ⟨st, sc, ns, _, rfl, rfl, hS, by omega, big _ (by omega), hF, fun r1 H1 hr1 hS1 f1 => ?_⟩
    have hD1 := keep f1
    walk_at "sx"
    refine r_dgOwn hD1 ?_
    walk_at "sx"
    refine l_lenOwn hD1 ?_
    walk_at "sx"
    refine ⟨st, sc, ns, _, rfl, rfl, hS1, by omega, big _ (by omega), hF, fun r2 H2 hr2 hS2 f2 => ?_⟩
    have hD2 := keep (f1.trans f2)
    walk_at "sx"
    refine r_lcR (n := T.n) (fun i => decide (T.wa i = none)) (fun i => .int (i : Int)) (by omega) (fun Q q => by walk_at "sx"; refine r_dgWan hD2 ?_; walk_at "sx"; exact l_lenWan hD2 q) (fun _ => rfl) (fun i H' hi f Q q => ?_) (fun i H' hi _ f Q q => ?_) (fun p3 H3 hp3 hl3 f3 => ?_)
    · walk_at "sx"
      refine r_dgWan (hD2.fr0 f) ?_
      walk_at "sx"
      refine l_ixWan (hD2.fr0 f) hi ?_
      walk_at "sx"
      refine ⟨rfl, ?_⟩
      walk_at "sx"
      have e : decide (oV (T.wa i) = V.non) = decide (T.wa i = none) := by rw [decide_eq_decide]; exact oV_non _
      rw [e]
      exact q H' Fr.refl
    · walk_at "sx"
      exact q _ H' Fr.refl (.int _)
    have nst : H2 st ≠ none := hS2.some
    generalize hxs : (List.range T.n).filter (fun i => decide (T.wa i = none)) = xs at *
    have e3 : H3 p3 = some (.lst (xs.map nV)) := by
      have e9 : turns (fun i => decide (T.wa i = none)) (fun i => PyData.int (i : Int)) T.n = (xs.map fun x : Nat => (x : Int)).map PyData.int := by rw [List.map_map, ← hxs]; rfl
      rw [e9] at hl3
      have := hl3.ints
      rw [List.map_map] at this
      exact this
    have hxl : xs.length ≤ 8 := by rw [← hxs]; have := List.length_filter_le (fun i => decide (T.wa i = none)) (List.range T.n); rw [List.length_range] at this; omega
    have hS3 := hS2.fr0 f3
    have g3 : Fr (Only1 st) H H3 := (f1.trans f2).trans f3.up
    walk_at "sx"
    refine ⟨st, sc, ns, 10, rfl, rfl, hS3, by decide, by decide, hF, fun r4 H4 hr4 hS4 f4 => ?_⟩
    have g4 := g3.trans f4
    have hD4 := keep g4
    have np3 : p3 ≠ st := fun z => nst (z ▸ hp3)
    have e4 : H4 p3 = some (.lst (xs.map nV)) := f4.old _ _ e3 np3
    walk_at "sx"
    refine r_dec (fun g => ?_) (fun g => ?_)
    · walk_at "sx"
      refine r_newL (by show 1 ≤ 1000; decide) (fun t1 H5 ht1 et1 f5 => ?_)
      walk_at "sx"
      refine r_cat (f5.lst e4) et1 (by rw [List.length_map]; show _ + 1 ≤ 1000; omega) (fun t2 H6 ht2 et2 f6 => ?_)
      walk_at "sx"
      refine r_lenS (f6.lst (f5.lst e4)) ?_
      rw [List.length_map]
      walk_at "sx"
      have hS6 := hS4.fr0 (f5.trans f6)
      refine ⟨st, sc, ns, _, rfl, rfl, hS6, by omega, Int.lt_of_le_of_lt (show (xs.length : Int) + 1 ≤ 12 by omega) (by decide), hF, fun r7 H7 hr7 hS7 f7 => ?_⟩
      have nt2 : t2 ≠ st := fun z => (hS4.fr0 f5).some (z ▸ ht2)
      have e7 : H7 t2 = some (.lst ((xs ++ [r1]).map nV)) := by
        rw [List.map_append]
        exact f7.old _ _ et2 nt2
      refine r_ixl (i := r7) e7 (map_at (d := 0) (by rw [List.length_append]; show r7 < xs.length + 1; omega)) ?_
      walk_at "sx"
      refine r_newT (by show 3 ≤ 1000; decide) (fun p H8 hp e f8 => ?_)
      have g8 : Fr (Only1 st) H H7 := (g4.trans (f5.trans f6).up).trans f7
      exact hq p (.ask _ _) H8 (g8.fresh hp) e (hS7.fr0 f8) (g8.trans f8.up)
    walk_at "sx"
    refine r_dec (fun g2 => ?_) (fun g2 => ?_)
    · walk_at "sx"
      refine r_dgOwn hD4 ?_
      walk_at "sx"
      refine l_ixOwn hD4 (by omega) ?_
      walk_at "sx"
      cases qo : T.ow r2 with
      | none =>
        refine ⟨rfl, ?_⟩
        walk_at "sx"
        refine r_dec (fun _ => ?_) (fun g => absurd rfl g)
        walk_at "sx"
        refine r_newT (by show 3 ≤ 1000; decide) (fun p H8 hp e f8 => ?_)
        exact hq p (.give _ _) H8 (g4.fresh hp) e (hS4.fr0 f8) (g4.trans f8.up)
      | some o =>
        refine ⟨rfl, ?_⟩
        walk_at "sx"
        refine r_dec (fun g => by cases g) (fun _ => ?_)
        walk_at "sx"
        refine r_newT (by show 3 ≤ 1000; decide) (fun p H8 hp e f8 => ?_)
        exact hq p (.give (o : Int) _) H8 (g4.fresh hp) e (hS4.fr0 f8) (g4.trans f8.up)
    walk_at "sx"
    refine r_eq rfl ?_
    walk_at "sx"
    refine r_dec (fun _ => ?_) (fun _ => ?_)
    · walk_at "sx"
      refine r_newT (by show 2 ≤ 1000; decide) (fun p H8 hp e f8 => ?_)
      exact hq p (.leave _) H8 (g4.fresh hp) e (hS4.fr0 f8) (g4.trans f8.up)
    · walk_at "sx"
      refine r_newT (by show 3 ≤ 1000; decide) (fun p H8 hp e f8 => ?_)
      exact hq p (.ask _ _) H8 (g4.fresh hp) e (hS4.fr0 f8) (g4.trans f8.up)
theorem sc_Ltable : FnScope ["_law_agents", "_law_locks", "_law_found", "_law_lock"] ["_law_agents", "_law_locks"] (defScope s_Ltable) := ⟨rfl, rfl, rfl, by decide +kernel, rfl, by decide +kernel, by decide +kernel⟩
theorem ok_Ltable (TX : Txt K mg) : OkF P w K mg base 1 (He.ga K "_law_table") ["_law_agents", "_law_locks"] (sp_Ltable K) := by
  refine okF TX.f_Ltable sc_Ltable (fun _ _ _ _ _ _ us hl => match us, hl with | [_, _], _ => rfl) (fun vs H Q E h => ?_) (fun cdv A outer s H vs Q E hr h => ?_)
  · obtain ⟨_, _, rfl, _⟩ := h
    rfl
  · obtain ⟨x, y, rfl, h⟩ := h
    refine ⟨_, (pss_cons (ps_set (i := 2) sc_Ltable.nd rfl (Or.inl rfl) (pe_disp (pps_cons pe_str (pe_op op_rep (pe_lst (pa_cons pe_non pa_nil)) (pv 1)) (pps_cons pe_str (pe_lc (own := [("_law_lock", 3)]) (g := gName 3) rfl sc_Ltable.nd (pi_range1 (by rfl) TX.z_range (pa_cons (pv 1) pa_nil)) (blkOk_by (N := ["_law_agents", "_law_locks", "_law_found", "_law_lock"]) (sc := defScope s_Ltable) (by decide +kernel)) (fun _ _ _ _ _ => pg_name (i := 3) sc_Ltable.nd rfl (Or.inl rfl)) (fun _ _ _ _ _ => by exact pts_nil) (fun _ _ _ _ _ => by exact (pe_lst pa_nil))) (pps_cons pe_str (pe_op op_rep (pe_lst (pa_cons pe_int pa_nil)) (pv 1)) pps_nil))) (by rfl) (by rfl) (fun z => by cases z) (by decide))) (pss_cons (ps_expr (pe_bm PySem.F.plainAttrs_dict PySem.F.slot_dict_update PySem.F.type_dict_update mt_update (pv 2) (pa_cons (pe_disp (pps_cons pe_str (pe_op op_rep (pe_lst (pa_cons pe_non pa_nil)) (pv 0)) (pps_cons pe_str (pe_op op_rep (pe_lst (pa_cons pe_int pa_nil)) (pv 0)) pps_nil)) (by rfl) (by rfl) (fun z => by cases z) (by decide)) pa_nil))) (pss_one (ps_ret (pv 2))))), ?_⟩
    refine r_st (σ' := [some x, some y, none, none]) rfl ?_
    try dsimp only [cxOf]
    obtain ⟨n, m, rfl, rfl, hs, bad, hb, h⟩ := h
    have hm : m ≤ 12 := by have := hs.m12; rw [Tb.new_m] at this; exact this
    have hn : n ≤ 8 := by have := hs.n8; rw [Tb.new_n] at this; exact this
    walk_at "sx"
    refine r_disp (fun p H1 hp e1 f1 => ?_)
    walk_at "sx"
    refine r_newL (by show 1 ≤ 1000; decide) (fun t1 H2 ht1 et1 f2 => ?_)
    walk_at "sx"
    refine r_rep et1 (by omega) (fun ow H3 how eow f3 => ?_)
    walk_at "sx"
    refine r_lcMR (n := m) (fun _ => []) (by omega) (fun Q q => by walk_at "sx"; exact q) (fun _ => rfl) (fun i H' hi f Q q => by walk_at "sx"; exact r_newL (by show 0 ≤ 1000; decide) q) (fun li ls H4 hli hll w => ?_)
    walk_at "sx"
    refine r_newL (by show 1 ≤ 1000; decide) (fun t2 H5 ht2 et2 f5 => ?_)
    walk_at "sx"
    refine r_rep et2 (by omega) (fun ti H6 hti eti f6 => ?_)
    walk_at "sx"
    have g6 : Fr No H1 H6 := (((f2.trans f3).trans w.fr).trans f5).trans f6
    refine r_dispE [(.inr "owners", .ref ow), (.inr "lines", .ref li), (.inr "times", .ref ti)] (g6.lst e1) rfl (by show 3 ≤ 15; decide) (fun H7 e7 f7 => ?_)
    walk_at "sx"
    refine r_tyD e7 ?_
    walk_at "sx"
    refine r_disp (fun p2 H8 hp2 e8 f8 => ?_)
    walk_at "sx"
    refine r_newL (by show 1 ≤ 1000; decide) (fun t3 H9 ht3 et3 f9 => ?_)
    walk_at "sx"
    refine r_rep et3 (by omega) (fun wa H10 hwa ewa f10 => ?_)
    walk_at "sx"
    refine r_newL (by show 1 ≤ 1000; decide) (fun t4 H11 ht4 et4 f11 => ?_)
    walk_at "sx"
    refine r_rep et4 (by omega) (fun ro H12 hro ero f12 => ?_)
    walk_at "sx"
    have g12 : Fr No H8 H12 := (((f9.trans f10).trans f11).trans f12)
    refine r_dispE [(.inr "wants", .ref wa), (.inr "rounds", .ref ro)] (g12.lst e8) rfl (by show 2 ≤ 15; decide) (fun H13 e13 f13 => ?_)
    walk_at "sx"
    have np2 : p ≠ p2 := fun z => by rw [← z, e7] at hp2; cases hp2
    have e12 : H12 p = some (.dK [(.inr "owners", .ref ow), (.inr "lines", .ref li), (.inr "times", .ref ti)]) := g12.lst (f8.lst e7)
    refine r_updD (f13.old _ _ e12 np2) e13 np2 (by show 3 + 2 ≤ 1000; decide) (fun H14 e14 f14 => ?_)
    walk_at "sx"
    -- where all stands
    have k2 : Fr No H H2 := f1.trans f2
    have k3 : Fr No H H3 := k2.trans f3
    have k4 : Fr No H H4 := k3.trans w.fr
    have k5 : Fr No H H5 := k4.trans f5
    have k6 : Fr No H H6 := k5.trans f6
    have k7 : Fr No H H7 := k6.mutO f7 hp
    have k12 : Fr No H H12 := k7.trans (f8.trans g12)
    have k8 : Fr No H H8 := k7.trans f8
    have k13 : Fr No H H13 := k12.mutO f13 (k7.fresh hp2)
    have k14 : Fr No H H14 := k13.mutO f14 hp
    have q7 : ∀ b o, H6 b = some o → b ≠ p → H7 b = some o := fun b o e n => f7.old _ _ e n
    have q14 : ∀ b o, H12 b = some o → b ≠ p → b ≠ p2 → H14 b = some o := fun b o e n1 n2 => f14.old _ _ (f13.old _ _ e n2) n1
    have l7 : ∀ b o, H7 b = some o → b ≠ p → H14 b = some o := fun b o e n => q14 b o (g12.lst (f8.lst e)) n (fun z => by rw [z, hp2] at e; cases e)
    have l6 : ∀ b o, H6 b = some o → b ≠ p → H14 b = some o := fun b o e n => l7 b o (q7 b o e n) n
    have now : ow ≠ p := ne_fresh (f2.lst e1) how
    have nli : li ≠ p := ne_fresh ((f2.trans f3).lst e1) hli
    have nti : ti ≠ p := ne_fresh ((((f2.trans f3).trans w.fr).trans f5).lst e1) hti
    have nwa : wa ≠ p := ne_fresh (f9.lst (f8.lst e7)) hwa
    have nro : ro ≠ p := ne_fresh (((f9.trans f10).trans f11).lst (f8.lst e7)) hro
    have nwa2 : wa ≠ p2 := ne_fresh (f9.lst e8) hwa
    have nro2 : ro ≠ p2 := ne_fresh (((f9.trans f10).trans f11).lst e8) hro
    have a_ow : H6 ow = some (.lst (List.replicate m .non)) := (w.fr.trans (f5.trans f6)).lst eow
    have a_li : H6 li = some (.lst (ls.map V.ref)) := (f5.trans f6).lst w.at_
    have b_ow : H8 ow = some (.lst (List.replicate m .non)) := f8.lst (q7 _ _ a_ow now)
    have b_li : H8 li = some (.lst (ls.map V.ref)) := f8.lst (q7 _ _ a_li nli)
    have b_ti : H8 ti = some (.lst (List.replicate m (.int 0))) := f8.lst (q7 _ _ eti nti)
    have n1 : ow ≠ li := (ne_fresh eow hli).symm
    have n2 : ow ≠ ti := (ne_fresh ((w.fr.trans f5).lst eow) hti).symm
    have n3 : li ≠ ti := (ne_fresh (f5.lst w.at_) hti).symm
    have n4 : ow ≠ wa := (ne_fresh (f9.lst b_ow) hwa).symm
    have n5 : li ≠ wa := (ne_fresh (f9.lst b_li) hwa).symm
    have n6 : ti ≠ wa := (ne_fresh (f9.lst b_ti) hwa).symm
    have g11 : Fr No H8 H11 := (f9.trans f10).trans f11
    have n7 : ow ≠ ro := (ne_fresh (g11.lst b_ow) hro).symm
    have n8 : li ≠ ro := (ne_fresh (g11.lst b_li) hro).symm
    have n9 : ti ≠ ro := (ne_fresh (g11.lst b_ti) hro).symm
    have n10 : wa ≠ ro := (ne_fresh (f11.lst ewa) hro).symm
    have k11 : Fr No H H11 := k8.trans g11
    have k9 : Fr No H H9 := k8.trans f9
    have nin : ∀ b, LA.has ⟨p, ow, li, ti, wa, ro, fun _ => True⟩ b → H b = none := fun b hb => by
      unfold LA.has at hb
      simp only [List.mem_cons, List.not_mem_nil, or_false] at hb
      rcases hb with e | e | e | e | e | e
      · rw [e]; exact hp
      · rw [e]; exact k2.fresh how
      · rw [e]; exact k3.fresh hli
      · rw [e]; exact k5.fresh hti
      · rw [e]; exact k9.fresh hwa
      · rw [e]; exact k11.fresh hro
    refine h ⟨p, ow, li, ti, wa, ro, fun b => LA.has ⟨p, ow, li, ti, wa, ro, fun _ => True⟩ b ∨ bad b⟩ H14 ⟨e14, ?_, ?_, ?_, ?_, ⟨ls, l6 _ _ a_li nli, ?_, fun i a e => ?_⟩, ?_, fun b hb' z => ?_, fun b hb' => .inl hb', hs⟩ k14 nin (fun b => Iff.rfl)
    · have := l6 _ _ a_ow now
      rw [this]
      simp [Tb.new, oV]
    · have := l6 _ _ eti nti
      rw [this]
      simp [Tb.new, nV]
    · have := q14 _ _ ((f11.trans f12).lst ewa) nwa nwa2
      rw [this]
      simp [Tb.new, oV]
    · have := q14 _ _ ero nro nro2
      rw [this]
      simp [Tb.new, nV]
    · rw [hll]
      simp [Tb.new]
    · obtain ⟨w1, w2⟩ := w.each i a e
      have na : H a = none := k3.fresh w2
      have nap : a ≠ p := ne_fresh ((f2.trans f3).lst e1) w2
      have e6 : H6 a = some (.lst []) := (f5.trans f6).lst w1
      refine ⟨by rw [Tb.new_ln]; exact l6 _ _ e6 nap, fun z => ?_⟩
      have nls : a ≠ li := fun z => by
        have := w.nd
        rw [List.nodup_cons] at this
        exact this.1 (z ▸ List.mem_of_getElem? e)
      rcases z with z | z
      · unfold LA.has at z
        simp only [List.mem_cons, List.not_mem_nil, or_false] at z
        rcases z with e' | e' | e' | e' | e' | e'
        · exact nap e'
        · rw [e', eow] at w2; cases w2
        · exact nls e'
        · rw [e', f5.fresh hti] at w1; cases w1
        · have := f9.lst (f8.lst (q7 _ _ e6 nap))
          rw [e', hwa] at this
          cases this
        · have := g11.lst (f8.lst (q7 _ _ e6 nap))
          rw [e', hro] at this
          cases this
      · exact hb a z na
    · simp only [List.nodup_cons, List.mem_cons, not_or, List.not_mem_nil, or_false, not_false_eq_true, true_and, List.nodup_nil, and_true]
      exact ⟨⟨now.symm, nli.symm, nti.symm, nwa.symm, nro.symm⟩, ⟨n1, n2, n4, n7⟩, ⟨n3, n5, n8⟩, ⟨n6, n9⟩, n10⟩
    · rcases hb' with hb' | hb'
      · unfold LA.has at hb'
        simp only [List.mem_cons, List.not_mem_nil, or_false] at hb'
        rcases hb' with e | e | e | e | e | e
        · rw [e, e14] at z; cases z
        · rw [e, l6 _ _ a_ow now] at z; cases z
        · rw [e, l6 _ _ a_li nli] at z; cases z
        · rw [e, l6 _ _ eti nti] at z; cases z
        · rw [e, q14 _ _ ((f11.trans f12).lst ewa) nwa nwa2] at z; cases z
        · rw [e, q14 _ _ ero nro nro2] at z; cases z
      · exact hb b hb' (k14.fresh z)
theorem sc_t_init : FnScope ["self", "agents", "locks", "lock"] ["self", "agents", "locks"] (defScope s_t_init) := ⟨rfl, rfl, rfl, by decide +kernel, rfl, by decide +kernel, by decide +kernel⟩
theorem ok_t_init (TX : Txt K mg) : OkF P w K mg base 1 (He.ma K (He.ga K "Table") "__init__") ["self", "agents", "locks"] (sp_t_init K) := by
  refine okF TX.f_t_init sc_t_init (fun _ _ _ _ _ _ us hl => match us, hl with | [_, _, _], _ => rfl) (fun vs H Q E h => ?_) (fun cdv A outer s H vs Q E hr h => ?_)
  · obtain ⟨_, _, _, rfl, _⟩ := h
    rfl
  · obtain ⟨x, y, z, rfl, h⟩ := h
    refine ⟨_, (pss_cons (ps_if (PW.pt (pw_or (pt_not (pt_chain op_le op_le pe_int (pv 1) (pe_glob (v := .int 8) rfl TX.i_MOST_AGENTS.choose_spec ⟨_, rfl⟩))) (pw_or1 (pt_not (pt_chain op_le op_le pe_int (pv 2) (pe_glob (v := .int 12) rfl TX.i_MOST_LOCKS.choose_spec ⟨_, rfl⟩)))))) (pss_one (ps_raise rfl (takes_of rfl rfl rfl rfl) (pmk_own PySem.F.excBase_ValueError TX.e_NoTable.ex TX.e_NoTable.g TX.e_NoTable.k (raises_own TX.e_NoTable.b TX.e_NoTable.t) rfl))) pss_nil) (pss_cons (kp_fld (K := K) rfl (pv 0) (pe_op op_rep (pe_lst (pa_cons pe_non pa_nil)) (pv 2)) rfl) (pss_cons (kp_fld (K := K) rfl (pv 0) (pe_lc (own := [("lock", 3)]) (g := gName 3) rfl sc_t_init.nd (pi_range1 (by rfl) TX.z_range (pa_cons (pv 2) pa_nil)) (blkOk_by (N := ["self", "agents", "locks", "lock"]) (sc := defScope s_t_init) (by decide +kernel)) (fun _ _ _ _ _ => pg_name (i := 3) sc_t_init.nd rfl (Or.inl rfl)) (fun _ _ _ _ _ => by exact pts_nil) (fun _ _ _ _ _ => by exact (pe_lst pa_nil))) rfl) (pss_cons (kp_fld (K := K) rfl (pv 0) (pe_op op_rep (pe_lst (pa_cons pe_int pa_nil)) (pv 2)) rfl) (pss_cons (kp_fld (K := K) rfl (pv 0) (pe_op op_rep (pe_lst (pa_cons pe_non pa_nil)) (pv 1)) rfl) (pss_one (kp_fld (K := K) rfl (pv 0) (pe_op op_rep (pe_lst (pa_cons pe_int pa_nil)) (pv 1)) rfl))))))), ?_⟩
    refine r_st (σ' := [some x, some y, some z, none]) rfl ?_
    try dsimp only [cxOf]
    obtain ⟨p, dx, a, l, rfl, rfl, rfl, hp, hb, ho⟩ := h
    walk_at "sx"
    refine r_between (fun _ q => by walk_at "sx"; exact q) (fun _ q => q) ?_
    walk_at "sx"
    refine r_decN (fun g => ?_) (fun g => ?_)
    · exact hb (fun z => g z.1)
    walk_at "sx"
    refine r_between (fun _ q => by walk_at "sx"; exact q) (fun _ q => q) ?_
    walk_at "sx"
    refine r_decN (fun g2 => ?_) (fun g2 => ?_)
    · exact hb (fun z => g2 z.2)
    have hok : TbOk a l := ⟨g, g2⟩
    obtain ⟨n, rfl⟩ : ∃ n : Nat, a = (n : Int) := ⟨a.toNat, by omega⟩
    obtain ⟨m, rfl⟩ : ∃ m : Nat, l = (m : Int) := ⟨l.toNat, by omega⟩
    have hs : (Tb.new n m).Sz := Tb.Sz.new (by omega) (by omega) (by omega) (by omega)
    replace ho := ho hok
    rw [Int.toNat_natCast, Int.toNat_natCast] at ho
    walk_at "sx"
    refine r_newL (by show 1 ≤ 1000; decide) (fun t1 H1 ht1 et1 h1 => ?_)
    walk_at "sx"
    refine r_rep et1 (by omega) (fun ow H2 how eow h2 => ?_)
    walk_at "sx"
    refine r_putOn ((h1.trans h2).lst hp) TX.tb.c TX.tb.o (by show 0 < 1000; decide) (fun H3 e3 g1 => ?_)
    walk_at "sx"
    refine r_lcMR (n := m) (fun _ => []) (by omega) (fun Q q => by walk_at "sx"; exact q) (fun _ => rfl) (fun i H' hi f Q q => by walk_at "sx"; exact r_newL (by show 0 ≤ 1000; decide) q) (fun li ls H4 hli hll w => ?_)
    walk_at "sx"
    refine r_putOn (w.fr.lst e3) TX.tb.c TX.tb.l (by show 1 < 1000; decide) (fun H5 e5 g2' => ?_)
    walk_at "sx"
    refine r_newL (by show 1 ≤ 1000; decide) (fun t2 H6 ht2 et2 h6 => ?_)
    walk_at "sx"
    refine r_rep et2 (by omega) (fun ti H7 hti eti h7 => ?_)
    walk_at "sx"
    refine r_putOn ((h6.trans h7).lst e5) TX.tb.c TX.tb.t (by show 2 < 1000; decide) (fun H8 e8 g3 => ?_)
    walk_at "sx"
    refine r_newL (by show 1 ≤ 1000; decide) (fun t3 H9 ht3 et3 h9 => ?_)
    walk_at "sx"
    refine r_rep et3 (by omega) (fun wa H10 hwa ewa h10 => ?_)
    walk_at "sx"
    refine r_putOn ((h9.trans h10).lst e8) TX.tb.c TX.tb.w (by show 3 < 1000; decide) (fun H11 e11 g4 => ?_)
    walk_at "sx"
    refine r_newL (by show 1 ≤ 1000; decide) (fun t4 H12 ht4 et4 h12 => ?_)
    walk_at "sx"
    refine r_rep et4 (by omega) (fun ro H13 hro ero h13 => ?_)
    walk_at "sx"
    refine r_putOn ((h12.trans h13).lst e11) TX.tb.c TX.tb.r (by show 4 < 1000; decide) (fun H14 e14 g5 => ?_)
    walk_at "sx"
    obtain ⟨q1, q2, q3⟩ := five (K := K) (T := Tb.new n m) hs hp fs_nil (h1.trans h2) (h1.fresh how) (by rw [eow]; simp [Tb.new, oV]) g1 w (by rw [hll]; simp [Tb.new]) (fun i _ => by rw [Tb.new_ln]; rfl) g2' (h6.trans h7) (h6.fresh hti) (by rw [eti]; simp [Tb.new, nV]) g3 (h9.trans h10) (h9.fresh hwa) (by rw [ewa]; simp [Tb.new, oV]) g4 (h12.trans h13) (h12.fresh hro) (by rw [ero]; simp [Tb.new, nV]) g5 e14
    exact ho _ H14 rfl q1 q2 q3
theorem sc_Lkind : FnScope ["_law_work", "e", "_law_words", "_law_kinds"] ["_law_work"] (defScope s_Lkind) := ⟨rfl, rfl, rfl, by decide +kernel, rfl, by decide +kernel, by decide +kernel⟩
def suiteOf (st : Stmt) : List Stmt := match defBody st with
  | [.Try _ [.ExceptHandler _ _ b _] _ _ _] => b
  | _ => []
theorem su_Lkind {X : Cx} (TX : Txt X.K X.mg) {g : Addr} {cdg : Value} {s : Shared} {H : Hp} {a : Addr} {oe : Obj} {pn : List (Addr × Obj)} {w : Wd} (C : ExcC X.K (He.ga X.K w.str)) (hz' : Zc (.ref (He.ga X.K w.str)) none oe) (hf : ∃ vs, oe.data = .fields vs) :
    ∃ t, PSs ((cxOf C8.CX0 X.prog X.w X.K X.mg X.base ["_law_work", "e", "_law_words", "_law_kinds"] "_law_kind" (defScope s_Lkind) g cdg X.A X.stack s H C8.E0).nox.suite a ((a, oe) :: pn)) (suiteOf s_Lkind) t ∧ ∀ (D : Ends) (x0 x2 x3 : Option V) (H' : Hp), (∀ H2, Fr No H' H2 → D.rt (.str w.str) H2) → t D [x0, some (.ref a), x2, x3] H' := by
  have hW := TX.wk
  refine ⟨_, (pss_cons (ps_set (i := 2) sc_Lkind.nd rfl (Or.inl rfl) (pe_lst (pa_cons pe_str (pa_cons pe_str (pa_cons pe_str (pa_cons pe_str (pa_cons pe_str (pa_cons pe_str (pa_cons pe_str (pa_cons pe_str (pa_cons pe_str pa_nil))))))))))) (pss_cons (ps_set (i := 3) sc_Lkind.nd rfl (Or.inl rfl) (pe_lst (pa_cons (pe_callB (call_isE C hz' hf) (by rfl) TX.z_isinstance (by decide +kernel) (pa_cons (pv 1) (pa_cons (pe_glob (v := .ref (He.ga X.K "NoTable")) rfl TX.e_NoTable.g rfl) pa_nil))) (pa_cons (pe_callB (call_isE C hz' hf) (by rfl) TX.z_isinstance (by decide +kernel) (pa_cons (pv 1) (pa_cons (pe_glob (v := .ref (He.ga X.K "NoHall")) rfl TX.e_NoHall.g rfl) pa_nil))) (pa_cons (pe_callB (call_isE C hz' hf) (by rfl) TX.z_isinstance (by decide +kernel) (pa_cons (pv 1) (pa_cons (pe_glob (v := .ref (He.ga X.K "NoAgent")) rfl TX.e_NoAgent.g rfl) pa_nil))) (pa_cons (pe_callB (call_isE C hz' hf) (by rfl) TX.z_isinstance (by decide +kernel) (pa_cons (pv 1) (pa_cons (pe_glob (v := .ref (He.ga X.K "NoLock")) rfl TX.e_NoLock.g rfl) pa_nil))) pa_nil)))))) (pss_cons (ps_set (i := 3) sc_Lkind.nd rfl (Or.inl rfl) (pe_op op_cat (pv 3) (pe_lst (pa_cons (pe_callB (call_isE C hz' hf) (by rfl) TX.z_isinstance (by decide +kernel) (pa_cons (pv 1) (pa_cons (pe_glob (v := .ref (He.ga X.K "NoHouse")) rfl TX.e_NoHouse.g rfl) pa_nil))) (pa_cons (pe_callB (call_isE C hz' hf) (by rfl) TX.z_isinstance (by decide +kernel) (pa_cons (pv 1) (pa_cons (pe_glob (v := .ref (He.ga X.K "NoLetter")) rfl TX.e_NoLetter.g rfl) pa_nil))) (pa_cons (pe_callB (call_isE C hz' hf) (by rfl) TX.z_isinstance (by decide +kernel) (pa_cons (pv 1) (pa_cons (pe_glob (v := .ref (He.ga X.K "Stopped")) rfl TX.e_Stopped.g rfl) pa_nil))) (pa_cons (pe_callB (call_isE C hz' hf) (by rfl) TX.z_isinstance (by decide +kernel) (pa_cons (pv 1) (pa_cons (pe_glob (v := .ref (He.ga X.K "Waits")) rfl TX.e_Waits.g rfl) pa_nil))) pa_nil))))))) (pss_cons (ps_set (i := 3) sc_Lkind.nd rfl (Or.inl rfl) (pe_op op_cat (pv 3) (pe_lst (pa_cons (pe_callB (call_isE C hz' hf) (by rfl) TX.z_isinstance (by decide +kernel) (pa_cons (pv 1) (pa_cons (pe_glob (v := .ref (He.ga X.K "Holds")) rfl TX.e_Holds.g rfl) pa_nil))) (pa_cons (pe_callB (call_isE C hz' hf) (by rfl) TX.z_isinstance (by decide +kernel) (pa_cons (pv 1) (pa_cons (pe_glob (v := .ref (He.ga X.K "NotHeld")) rfl TX.e_NotHeld.g rfl) pa_nil))) (pa_cons (pe_callB (call_isE C hz' hf) (by rfl) TX.z_isinstance (by decide +kernel) (pa_cons (pv 1) (pa_cons (pe_glob (v := .ref (He.ga X.K "Up")) rfl TX.e_Up.g rfl) pa_nil))) pa_nil)))))) (pss_cons (ps_if (PW.pt (pw_or (pt_cmpR (op_ne) (pe_bm PySem.F.plainAttrs_list PySem.F.slot_list_count PySem.F.type_list_count mt_lcountV (pv 3) (pa_cons pe_bl pa_nil)) pe_int (nomark _)) (pw_or1 (pt_not (pt_val (pe_callB (call_isE C hz' hf) (by rfl) TX.z_isinstance (by decide +kernel) (pa_cons (pv 1) (pa_cons (pe_bltn (v := .ty "ValueError") (by rfl) TX.z_ValueError (by decide +kernel) rfl) pa_nil)))))))) (pss_one (ps_ret pe_str)) pss_nil) (pss_one (ps_ret (pe_ix (k_ixl (K := X.K) rfl) (pe_op op_cat (pv 2) (pe_lst (pa_cons pe_str (pa_cons pe_str pa_nil)))) (pe_bm PySem.F.plainAttrs_list PySem.F.slot_list_index PySem.F.type_list_index mt_index (pv 3) (pa_cons pe_bl pa_nil)) (fun _ _ => rfl))))))))), ?_⟩
  intro D x0 x2 x3 H' hq
  dsimp only [cxOf]
  walk_at "sx"
  refine r_newL (by show 9 ≤ 1000; decide) (fun p1 H1 hp1 e1 f1 => ?_)
  walk_at "sx"
  refine r_isE hW .noTable ?_
  walk_at "sx"
  refine r_isE hW .noHall ?_
  walk_at "sx"
  refine r_isE hW .noAgent ?_
  walk_at "sx"
  refine r_isE hW .noLock ?_
  walk_at "sx"
  refine r_newL (by show 4 ≤ 1000; decide) (fun p2 H2 hp2 e2 f2 => ?_)
  walk_at "sx"
  refine r_isE hW .noHouse ?_
  walk_at "sx"
  refine r_isE hW .noLetter ?_
  walk_at "sx"
  refine r_isE hW .stopped ?_
  walk_at "sx"
  refine r_isE hW .waits ?_
  walk_at "sx"
  refine r_newL (by show 4 ≤ 1000; decide) (fun p3 H3 hp3 e3 f3 => ?_)
  walk_at "sx"
  refine r_cat (f3.lst e2) e3 (by show 4 + 4 ≤ 1000; decide) (fun p4 H4 hp4 e4 f4 => ?_)
  walk_at "sx"
  refine r_isE hW .holds ?_
  walk_at "sx"
  refine r_isE hW .notHeld ?_
  walk_at "sx"
  refine r_isE hW .up ?_
  walk_at "sx"
  refine r_newL (by show 3 ≤ 1000; decide) (fun p5 H5 hp5 e5 f5 => ?_)
  walk_at "sx"
  refine r_cat (f5.lst e4) e5 (by show 8 + 3 ≤ 1000; decide) (fun p6 H6 hp6 e6 f6 => ?_)
  have e6' : H6 p6 = some (.lst w.row) := e6
  walk_at "sx"
  refine r_tyL e6' ?_
  walk_at "sx"
  refine ⟨p6, w.row, .bl true, rfl, rfl, SqL.of e6', rfl, w.row_flat, ?_⟩
  rw [w.row_cnt]
  walk_at "sx"
  refine r_ne rfl ?_
  walk_at "sx"
  refine r_decN (fun g => absurd rfl g) (fun _ => ?_)
  walk_at "sx"
  refine r_isEV hW ?_
  walk_at "sx"
  refine r_newL (by show 2 ≤ 1000; decide) (fun p7 H7 hp7 e7 f7 => ?_)
  walk_at "sx"
  refine r_cat ((((((f2.trans f3).trans f4).trans f5).trans f6).trans f7).lst e1) e7 (by show 9 + 2 ≤ 1000; decide) (fun p8 H8 hp8 e8 f8 => ?_)
  have e8' : H8 p8 = some (.lst Wd.words) := e8
  have e68 : H8 p6 = some (.lst w.row) := f8.lst (f7.lst e6')
  walk_at "sx"
  refine r_tyL e68 ?_
  walk_at "sx"
  refine ⟨p6, w.row, .bl true, w.ix, .bl true, rfl, rfl, SqL.of e68, rfl, w.row_flat, w.row_ix, rfl, w.row_no, ?_⟩
  refine r_ixl e8' w.word_ix ?_
  exact hq H8 (((((((f1.trans f2).trans f3).trans f4).trans f5).trans f6).trans f7).trans f8)
theorem gv_Lkind {X : Cx} (TX : Txt X.K X.mg) {g : Addr} {cdg : Value} {q : Str} : LamX.GivesTo X ["_law_work", "e", "_law_words", "_law_kinds"] "_law_kind" (defScope s_Lkind) g cdg (defBody s_Lkind) "_law_work" q (TKind X.K) := by
  intro f c' s H Q tl act hco h
  have hW := TX.wk
  have hgl : Gl (cxOf C8.CX0 X.prog X.w X.K X.mg X.base ["_law_work", "e", "_law_words", "_law_kinds"] "_law_kind" (defScope s_Lkind) g cdg X.A X.stack s H C8.E0).nox "LockError" := by rfl
  refine ⟨_, pss_one (ps_try_as (X := (cxOf C8.CX0 X.prog X.w X.K X.mg X.base ["_law_work", "e", "_law_words", "_law_kinds"] "_law_kind" (defScope s_Lkind) g cdg X.A X.stack s H C8.E0).nox) (c := .ref (He.ga X.K "LockError")) (i := 1)
    (tb := fun W D σ H => ∃ Ech : XK, (∀ cls d σ' H', Ech cls d H' → W cls d σ' H') ∧ σ[0]? = some (some (.ref f)) ∧ H c' = some (LamX.CodeO c' q) ∧ tl Ech H D.rt)
    (ts := tsKind X.K) (Wout := fun _ _ _ _ => False) rfl rfl sc_Lkind.nd rfl rfl ⟨hgl, by decide +kernel, .inl TX.e_LockError.g⟩ LamX.takes0 (fun W pn xe tk _ => ?_) (fun a oe cls d pn hz hf => ?_)), ?_⟩
  · refine ⟨fun pins s' σ H' D I h' => ?_⟩
    obtain ⟨Ech, hV, h1, h2, h3⟩ := h'
    exact (pss_one (ps_ret (act W pn xe Ech _ _ tk hV))).run pins s' σ H' D I ⟨h1, h2, h3⟩
  · refine pss_ofL (fun D σ H' hlen h' => ?_)
    obtain ⟨w, rfl, rfl, ⟨σ0, rfl⟩, hq⟩ := h'
    obtain ⟨t, ht, hq'⟩ := su_Lkind TX (g := g) (cdg := cdg) (s := s) (H := H) (a := a) (pn := pn) (hW.x w) hz hf
    obtain ⟨x0, x2, x3, eσ⟩ := slots4 hlen
    refine ⟨t, ht, ?_⟩
    rw [eσ]
    exact hq' D x0 x2 x3 H' hq
  · refine ⟨fun cls d H' => d = none ∧ ∃ w : Wd, cls = w.cls X.K ∧ ∀ H2, Fr No H' H2 → Q (.str w.str) H2, fun cls d σ' H' hE => ?_, rfl, hco, h⟩
    obtain ⟨rfl, w, rfl, hq⟩ := hE
    exact ⟨true, hW.m w, fun _ a _ => ⟨w, rfl, rfl, ⟨_, rfl⟩, hq⟩, fun z => nomatch z⟩

theorem sc_Lgrown : FnScope ["_law_state", "_law_most", "_law_agents", "_law_locks", "_law_table_here", "_law_t", "_law_turn", "_law_deed_here"] ["_law_state", "_law_most"] (defScope s_Lgrown) := ⟨rfl, rfl, rfl, by decide +kernel, rfl, by decide +kernel, by decide +kernel⟩
theorem ok_Lgrown (TX : Txt K mg) (TB : TBs base mg K) : OkF P w K mg base 10 (He.fAd K ("_law_grown", none)) ["_law_state", "_law_most"] (sp_Lgrown (Ts K) K) := by
  obtain ⟨fd_Lkind, F_Lkind⟩ := TX.f_Lkind
  have bb_Lkind := FunD.bindsN (ps := ["_law_work"]) F_Lkind (fun _ _ _ _ _ _ us hl => match us, hl with | [_], _ => rfl)
  have kk_Lkind := F_Lkind.kp
  obtain ⟨oc, od, dV, kV, doc, pm, an, cdg, ct, osl, efd, lk_Lkind, hc_Lkind, _, _⟩ := F_Lkind.ex
  subst efd
  obtain ⟨⟨fd_Ldrawn, G_Ldrawn, b_Ldrawn⟩, k_Ldrawn⟩ := (ok_Ldrawn TX : OkF P w K mg base _ _ _ _)
  obtain ⟨⟨fd_Lsame, G_Lsame, b_Lsame⟩, k_Lsame⟩ := (ok_Lsame TX : OkF P w K mg base _ _ _ _)
  obtain ⟨⟨fd_Ldue, G_Ldue, b_Ldue⟩, k_Ldue⟩ := (ok_Ldue TX : OkF P w K mg base _ _ _ _)
  obtain ⟨⟨fd_Ldoes, G_Ldoes, b_Ldoes⟩, k_Ldoes⟩ := (ok_Ldoes TX : OkF P w K mg base _ _ _ _)
  obtain ⟨⟨fd_Ldeed, G_Ldeed, b_Ldeed⟩, k_Ldeed⟩ := (ok_Ldeed TX : OkF P w K mg base _ _ _ _)
  obtain ⟨⟨fd_Ltable, G_Ltable, b_Ltable⟩, k_Ltable⟩ := (ok_Ltable TX : OkF P w K mg base _ _ _ _)
  obtain ⟨⟨fd_t_init, G_t_init, b_t_init⟩, k_t_init⟩ := (ok_t_init TX : OkF P w K mg base _ _ _ _)
  refine okFL (p := ("_law_grown", none)) TX.f_Lgrown sc_Lgrown (fun _ _ _ _ _ _ us hl => match us, hl with | [_, _], _ => rfl) (fun vs H Q E h => ?_) (fun A outer s H vs Q E hr h => ?_)
  · obtain ⟨_, _, rfl, _⟩ := h
    rfl
  · obtain ⟨x, y, rfl, h⟩ := h
    refine ⟨_, (pss_cons (ps_set (i := 2) sc_Lgrown.nd rfl (Or.inl rfl) (pe_ix (k_ixl (K := K) rfl) (pe_lst (pa_cons (pe_op op_add pe_int (pe_call G_Ldrawn (hr.mono (by decide)) (by rfl) TX.g_Ldrawn k_Ldrawn b_Ldrawn .nil pE (pa_cons (pv 0) (pa_cons pe_int pa_nil)))) (pa_cons (pe_op op_add pe_int (pe_call G_Ldrawn (hr.mono (by decide)) (by rfl) TX.g_Ldrawn k_Ldrawn b_Ldrawn .nil pE (pa_cons (pv 0) (pa_cons pe_int pa_nil)))) pa_nil))) (pe_call G_Ldrawn (hr.mono (by decide)) (by rfl) TX.g_Ldrawn k_Ldrawn b_Ldrawn .nil pE (pa_cons (pv 0) (pa_cons pe_int pa_nil))) (fun _ _ => rfl))) (pss_cons (ps_set (i := 3) sc_Lgrown.nd rfl (Or.inl rfl) (pe_ix (k_ixl (K := K) rfl) (pe_lst (pa_cons (pe_op op_add pe_int (pe_call G_Ldrawn (hr.mono (by decide)) (by rfl) TX.g_Ldrawn k_Ldrawn b_Ldrawn .nil pE (pa_cons (pv 0) (pa_cons pe_int pa_nil)))) (pa_cons (pe_op op_add pe_int (pe_call G_Ldrawn (hr.mono (by decide)) (by rfl) TX.g_Ldrawn k_Ldrawn b_Ldrawn .nil pE (pa_cons (pv 0) (pa_cons pe_int pa_nil)))) pa_nil))) (pe_call G_Ldrawn (hr.mono (by decide)) (by rfl) TX.g_Ldrawn k_Ldrawn b_Ldrawn .nil pE (pa_cons (pv 0) (pa_cons pe_int pa_nil))) (fun _ _ => rfl))) (pss_cons (ps_set (i := 4) sc_Lgrown.nd rfl (Or.inr rfl) (pe_make TX.k_Table G_t_init (hr.mono (by decide)) (by rfl) TX.g_Table b_t_init .nil pE (pa_cons (pv 2) (pa_cons (pv 3) pa_nil)))) (pss_cons (ps_set (i := 5) sc_Lgrown.nd rfl (Or.inl rfl) (pe_call G_Ltable (hr.mono (by decide)) (by rfl) TX.g_Ltable k_Ltable b_Ltable .nil pE (pa_cons (pv 2) (pa_cons (pv 3) pa_nil)))) (pss_cons (ps_for pOwn rfl (pi_range1 (by rfl) TX.z_range (pa_cons (pe_call G_Ldrawn (hr.mono (by decide)) (by rfl) TX.g_Ldrawn k_Ldrawn b_Ldrawn .nil pE (pa_cons (pv 0) (pa_cons (pe_op op_add (pv 1) pe_int) pa_nil))) pa_nil)) (pg_name (i := 6) sc_Lgrown.nd rfl (Or.inl rfl)) (pss_cons (ps_set (i := 7) sc_Lgrown.nd rfl (Or.inr rfl) (pe_call G_Ldeed (hr.mono (by decide)) (by rfl) TX.g_Ldeed k_Ldeed b_Ldeed .nil pE (pa_cons (pv 0) (pa_cons (pv 5) pa_nil)))) (pss_one (ps_if (pt_not (pt_val (pe_call G_Lsame (hr.mono (by decide)) (by rfl) TX.g_Lsame k_Lsame b_Lsame .nil pE (pa_cons (LamX.pe_lamcall (T := Ts K) (TT := TKind K) (k := 4) (by rfl) TX.g_Lkind kk_Lkind lk_Lkind hc_Lkind bb_Lkind sc_Lkind rfl (Or.inl rfl) (gv_Lkind (X := _) TX) (TB _ (List.mem_cons_self ..)) rfl (List.mem_map.mpr ⟨_, (List.mem_cons_self ..), rfl⟩) (hu_nodup TX.ts (List.mem_cons_self ..)) (hr.mono (by decide)) (LamX.lamS_by (show LamX.lamSB (defScope s_Lgrown) _ = true from by decide +kernel)) rfl (fun _ _ _ _ _ => rfl) (fun A outer s H E f c' hr => by exact (pe_call G_Ldoes (hr.mono (by decide)) (by rfl) TX.g_Ldoes k_Ldoes b_Ldoes .nil pLam (pa_cons (pv 4) (pa_cons (pv 7) pa_nil))))) (pa_cons (pe_call G_Ldue (hr.mono (by decide)) (by rfl) TX.g_Ldue k_Ldue b_Ldue .nil pE (pa_cons (pv 5) (pa_cons (pv 7) pa_nil))) pa_nil))))) (pss_one (ps_ret pe_non)) pss_nil)))) (pss_one (ps_ret (pe_tup (pa_cons (pv 4) (pa_cons (pv 5) pa_nil)))))))))), ?_⟩
    refine r_st (σ' := [some x, some y, none, none, none, none, none, none]) rfl ?_
    try dsimp only [cxOf]
    obtain ⟨st, sc, ns, most, rfl, rfl, hmost, hS, hF, hTs, hq⟩ := h
    walk_at "sx"
    -- the counts
    refine ⟨st, sc, ns, 4, rfl, rfl, hS, by decide, by decide, hF, fun r1 H2 hr1 hS2 f2 => ?_⟩
    walk_at "sx"
    refine ⟨st, sc, ns, 8, rfl, rfl, hS2, by decide, by decide, hF, fun r2 H3 hr2 hS3 f3 => ?_⟩
    walk_at "sx"
    refine r_newL (by show 2 ≤ 1000; decide) (fun t1 H4 ht1 et1 f4 => ?_)
    walk_at "sx"
    refine ⟨st, sc, ns, 2, rfl, rfl, hS3.fr0 f4, by decide, by decide, hF, fun r3 H5 hr3 hS5 f5 => ?_⟩
    have et1' := f5.old _ _ et1 (fun z => hS3.some (z ▸ ht1))
    obtain ⟨n, en, hn1, hn8⟩ : ∃ n : Nat, ([V.int (2 + (r1 : Int)), V.int (1 + (r2 : Int))] : List V)[r3]? = some (.int (n : Int)) ∧ 1 ≤ n ∧ n ≤ 8 := by
      have : r3 = 0 ∨ r3 = 1 := by omega
      rcases this with e | e
      · subst e; exact ⟨2 + r1, by rw [Int.natCast_add]; rfl, by omega, by omega⟩
      · subst e; exact ⟨1 + r2, by rw [Int.natCast_add]; rfl, by omega, by omega⟩
    refine r_ixl et1' en ?_
    walk_at "sx"
    refine ⟨st, sc, ns, 4, rfl, rfl, hS5, by decide, by decide, hF, fun r4 H6 hr4 hS6 f6 => ?_⟩
    walk_at "sx"
    refine ⟨st, sc, ns, 12, rfl, rfl, hS6, by decide, by decide, hF, fun r5 H7 hr5 hS7 f7 => ?_⟩
    walk_at "sx"
    refine r_newL (by show 2 ≤ 1000; decide) (fun t2 H8 ht2 et2 f8 => ?_)
    walk_at "sx"
    refine ⟨st, sc, ns, 2, rfl, rfl, hS7.fr0 f8, by decide, by decide, hF, fun r6 H9 hr6 hS9 f9 => ?_⟩
    have et2' := f9.old _ _ et2 (fun z => hS7.some (z ▸ ht2))
    obtain ⟨m, em, hm1, hm12⟩ : ∃ m : Nat, ([V.int (2 + (r4 : Int)), V.int (1 + (r5 : Int))] : List V)[r6]? = some (.int (m : Int)) ∧ 1 ≤ m ∧ m ≤ 12 := by
      have : r6 = 0 ∨ r6 = 1 := by omega
      rcases this with e | e
      · subst e; exact ⟨2 + r4, by rw [Int.natCast_add]; rfl, by omega, by omega⟩
      · subst e; exact ⟨1 + r5, by rw [Int.natCast_add]; rfl, by omega, by omega⟩
    refine r_ixl et2' em ?_
    walk_at "sx"
    have g9 : Fr (Only1 st) H H9 := ((((((f2.trans f3).trans f4.up).trans f5).trans f6).trans f7).trans f8.up).trans f9
    have hTs9 : LamX.Tabs (Ts K) H9 := by
      obtain ⟨xs, e⟩ := hS.lst
      exact tabs_fr hTs g9 (old_one e)
    -- the table
    refine r_makeOn (fun x dx H10 hx e10 f10 => ?_)
    walk_at "sx"
    refine ⟨x, dx, (n : Int), (m : Int), rfl, rfl, rfl, e10, fun z => absurd ⟨⟨by omega, by omega⟩, by omega, by omega⟩ z, fun _ A H11 eA hA f11 hnew => ⟨rfl, ?_⟩⟩
    subst eA
    rw [Int.toNat_natCast, Int.toNat_natCast] at hA
    have hsz : (Tb.new n m).Sz := hA.sz
    have f911 : Fr No H9 H11 := (f10.mutO f11 hx)
    have nA : ∀ b, A.has b → H9 b = none := fun b hb => by
      by_cases z : b = A.p
      · rw [z]; exact hx
      · exact f10.fresh (hnew b hb z)
    have hS11 := hS9.fr0 f911
    have hTs1 := tabs_fr hTs9 f911 old_no
    walk_at "sx"
    refine ⟨n, m, rfl, rfl, hsz, fun b => A.has b ∨ b = st, fun b hb => ?_, fun D H12 hD f12 hDn hbad => ?_⟩
    · rcases hb with hb | hb
      · obtain ⟨o, e, _⟩ := hA.old hb
        rw [e]; simp
      · rw [hb]; exact hS11.some
    have hAold : ∀ b, A.has b → H11 b ≠ none := fun b hb z => by
      obtain ⟨o, e, _⟩ := hA.old hb
      rw [z] at e; cases e
    have W0 : LwS K A D st sc ns := ⟨fun b hb z => hAold b hb (hDn b z), fun b hb => (hbad b).mpr (.inr (.inl hb)), (hbad st).mpr (.inr (.inr rfl)), fun z => hS11.some (hDn st z), fun z => hS9.some (nA st z), fun b hb => (hbad b).mpr (.inl hb), fun b hb => (hbad b).mp hb, scF_of hS9.sq (fun b hb => nA b (TA.has_foot hb)), scF_of hS11.sq (fun b hb => hDn b (LA.has_foot hb)), hF⟩
    have L0 : Lw K A D st sc ns (Ts K) (Tb.new n m) H12 := ⟨hA.fr0 f12, hD, hS11.fr0 f12, tabs_fr hTs1 f12 old_no, Tb.Wf.new hsz⟩
    walk_at "sx"
    refine r_forRx ?_
    walk_at "sx"
    refine ⟨st, sc, ns, (most : Int) + 1, rfl, rfl, L0.st, by omega, Int.lt_of_le_of_lt (show (most : Int) + 1 ≤ 901 by omega) (by decide), hF, fun r7 H13 hr7 hS13 f13 => ?_⟩
    have L1 := L0.frS W0 f13 hS13
    walk_at "sx"
    refine r_rngOn (n := r7) (by omega) (fun i σ' H' => ∃ x6 x7 T, σ' = [some (.ref st), some (.int (most : Int)), some (.int (n : Int)), some (.int (m : Int)), some (.ref A.p), some (.ref D.d), x6, x7] ∧ Lw K A D st sc ns (Ts K) T H') ⟨_, _, _, rfl, L1⟩ (fun i0 σ' H' hi p => ?_) (fun σ' H' p => ?_)
    · obtain ⟨x6, x7, T, rfl, L⟩ := p
      clear L0 L1 hA hD
      walk_at "sx"
      refine ⟨st, sc, ns, D, T, rfl, rfl, L.st, hF, L.ld, W0.sb, W0.sd, fun p dd H1 hp ep hS1 f1 => ?_⟩
      have L1 := L.frS W0 f1 hS1
      walk_at "sx"
      refine ⟨L1.ts, fun H2 eN hT2 => ?_⟩
      have hA2 := L1.tb.ext eN
      have hD2 := L1.ld.ext eN (L1.bad W0)
      have hS2 := L1.st.ext eN
      have ep2 := eN _ _ ep (fun ps z => by cases z)
      refine r_kindDoes (p := p) (dd := dd) rfl rfl hA2 L1.wf ep2 (fun v' H3 hA3 hv3 f3 => ?_)
      have hW3 := L1.wf.deedR dd
      have hD3 : LdAt H3 D T := hD2.fr f3 (fun b hb => W0.ab _ (TA.has_foot hb)) (fun b hb z => W0.ad b (TA.has_foot z) hb)
      have hS3 := hS2.fr f3 (fun z => W0.sa (TA.has_foot z)) W0.fa
      have hT3 := tabs_fr hT2 f3 (old_foot hA2)
      walk_at "sx"
      refine ⟨D, T, p, dd, rfl, rfl, hD3, L1.wf, f3.tup _ _ ep2, fun v H4 hD4 hv4 f4 => ?_⟩
      have hA4 := hA3.fr f4 (fun b hb z => W0.ad b hb (LA.has_foot z))
      have hS4 := hS3.fr f4 (fun z => W0.sd (LA.has_foot z)) W0.fd
      have hT4 := tabs_fr hT3 f4 (old_lfoot hD3)
      have hv34 := hv3.fr f4 (fun b hb z => by
        obtain ⟨o, e, _⟩ := hD2.has_old (LA.has_foot hb)
        rw [z] at e; cases e)
      walk_at "sx"
      refine ⟨resD (T.deedR dd).1, hv34.dd, hv4.dd, resD_depth _, fun H5 f5 => ?_⟩
      walk_at "sx"
      refine ⟨_, _, (T.deedR dd).2, rfl, ⟨hA4.fr0 f5, hD4.fr0 f5, hS4.fr0 f5, tabs_fr hT4 f5 old_no, hW3⟩⟩
    · obtain ⟨x6, x7, T, rfl, L⟩ := p
      walk_at "sx"
      refine r_newT (by show 2 ≤ 1000; decide) (fun p H14 hp e14 f14 => ?_)
      exact hq A D T p H14 e14 (L.fr0 f14) W0
theorem sc_Lstart : FnScope ["_law_script", "_law_mixed", "_law_cell"] ["_law_script"] (defScope s_Lstart) := ⟨rfl, rfl, rfl, by decide +kernel, rfl, by decide +kernel, by decide +kernel⟩
theorem ok_Lstart (TX : Txt K mg) : OkF P w K mg base 1 (He.ga K "_law_start") ["_law_script"] (sp_Lstart K) := by
  refine okF TX.f_Lstart sc_Lstart (fun _ _ _ _ _ _ us hl => match us, hl with | [_], _ => rfl) (fun vs H Q E h => ?_) (fun cdv A outer s H vs Q E hr h => ?_)
  · obtain ⟨_, rfl, _⟩ := h
    rfl
  · obtain ⟨x, rfl, h⟩ := h
    refine ⟨_, (pss_cons (ps_set (i := 1) sc_Lstart.nd rfl (Or.inl rfl) pe_int) (pss_cons (ps_for pOwn rfl (k_listI (K := K) rfl (pv 0)) (pg_name (i := 2) sc_Lstart.nd rfl (Or.inl rfl)) (pss_one (ps_set (i := 1) sc_Lstart.nd rfl (Or.inl rfl) (pe_op op_mod (pe_op op_add (pe_op op_add (pe_op op_mul (pv 1) pe_int) (pv 2)) pe_int) pe_int)))) (pss_one (ps_ret (pe_lst (pa_cons (pv 0) (pa_cons pe_int (pa_cons (pv 1) (pa_cons pe_int pa_nil))))))))), ?_⟩
    refine r_st (σ' := [some x, none, none]) rfl ?_
    try dsimp only [cxOf]
    obtain ⟨sc, ns, rfl, hs, hl, h⟩ := h
    walk_at "sx"
    refine r_forL (fun _ q => by walk_at "sx"; exact q) hs (fun i σ' H' => ∃ (m : Int) (c : Option V), σ' = [some (.ref sc), some (.int m), c] ∧ H' = H) ⟨1, none, rfl, rfl⟩ (fun i σ' H' _ ⟨m, c, _, e⟩ => by rw [e]; exact hs) (fun i x σ' H' hi p => ?_) (fun σ' H' p => ?_)
    · obtain ⟨m, c, rfl, rfl⟩ := p
      obtain ⟨n, hn, rfl⟩ : ∃ n, ns[i]? = some n ∧ x = .int n := by
        rw [List.getElem?_map] at hi
        cases q : ns[i]? with
        | none => rw [q] at hi; cases hi
        | some n => rw [q] at hi; exact ⟨n, rfl, (Option.some.inj hi).symm⟩
      walk_at "sx"
      refine r_I (Or.inr ⟨by decide, by decide⟩) ?_
      walk_at "sx"
      refine r_I (by decide) ?_
      walk_at "sx"
      exact ⟨_, _, rfl, rfl⟩
    · obtain ⟨m, c, rfl, rfl⟩ := p
      walk_at "sx"
      refine r_newL (by show 4 ≤ 1000; decide) (fun p H1 hp e f => ?_)
      exact h p H1 hp ⟨⟨0, m, 0, e, by decide, by decide⟩, sqL_fr hs f (fun z => z), hl⟩ f
theorem sc_law : FnScope ["_law_script", "_law_state", "_law_grown_here", "_law_table_here", "_law_t", "_law_some", "_law_ring", "_law_agent", "_law_weight_here", "_law_again", "_law_found", "_law_agents"] ["_law_script"] (defScope s_law) := ⟨rfl, rfl, rfl, by decide +kernel, rfl, by decide +kernel, by decide +kernel⟩
theorem ok_law (TX : Txt K mg) (TB : TBs base mg K) {fd : FuncData} (F : FunD K "law" "law" (defArgs s_law) (defBody s_law) (defScope s_law) [] [] (He.ga K "law") fd) : FnOk P w K mg base (L2.CX P w) 11 (He.ga K "law") fd ["_law_script"] (sp_law (Ts K) K) := by
  obtain ⟨⟨fd_rings, G_rings, b_rings⟩, k_rings⟩ := (ok_rings TX : OkF P w K mg base _ _ _ _)
  obtain ⟨⟨fd_t_leave, G_t_leave, b_t_leave⟩, k_t_leave⟩ := (ok_t_leave TX : OkF P w K mg base _ _ _ _)
  obtain ⟨⟨fd_Lsets, G_Lsets, b_Lsets⟩, k_Lsets⟩ := (ok_Lsets TX : OkF P w K mg base _ _ _ _)
  obtain ⟨⟨fd_Lleft, G_Lleft, b_Lleft⟩, k_Lleft⟩ := (ok_Lleft TX : OkF P w K mg base _ _ _ _)
  obtain ⟨⟨fd_Lweight, G_Lweight, b_Lweight⟩, k_Lweight⟩ := (ok_Lweight TX : OkF P w K mg base _ _ _ _)
  obtain ⟨⟨fd_Lsame, G_Lsame, b_Lsame⟩, k_Lsame⟩ := (ok_Lsame TX : OkF P w K mg base _ _ _ _)
  obtain ⟨⟨fd_least, G_least, b_least⟩, k_least⟩ := (ok_least TX : OkF P w K mg base _ _ _ _)
  obtain ⟨⟨fd_Lrings, G_Lrings, b_Lrings⟩, k_Lrings⟩ := (ok_Lrings TX : OkF P w K mg base _ _ _ _)
  obtain ⟨⟨fd_Lgrown, G_Lgrown, b_Lgrown⟩, k_Lgrown⟩ := (ok_Lgrown TX TB : OkF P w K mg base _ _ _ _)
  obtain ⟨⟨fd_Lstart, G_Lstart, b_Lstart⟩, k_Lstart⟩ := (ok_Lstart TX : OkF P w K mg base _ _ _ _)
  refine F.ok sc_law (fun vs H Q E h => ?_) (fun cdv A outer s H vs Q E hr h => ?_)
  · obtain ⟨_, rfl, _⟩ := h
    rfl
  · obtain ⟨x, rfl, h⟩ := h
    refine ⟨_, (pss_cons (ps_set (i := 1) sc_law.nd rfl (Or.inl rfl) (pe_call G_Lstart (hr.mono (by decide)) (by rfl) TX.g_Lstart k_Lstart b_Lstart .nil pE (pa_cons (pv 0) pa_nil))) (pss_cons (ps_set (i := 2) sc_law.nd rfl (Or.inl rfl) (pe_call G_Lgrown (hr.mono (by decide)) (by rfl) TX.g_Lgrown k_Lgrown b_Lgrown .nil pE (pa_cons (pv 1) (pa_cons pe_int pa_nil)))) (pss_cons (ps_if (pt_cmpR (op_isN) (pv 2) pe_non (nomark _)) (pss_one (ps_ret pe_bl)) pss_nil) (pss_cons (ps_asg (pv 2) (pg_tup (by rfl) (pgs_cons (pg_name (i := 3) sc_law.nd rfl (Or.inl rfl)) (pgs_cons (pg_name (i := 4) sc_law.nd rfl (Or.inr rfl)) pgs_nil)))) (pss_cons (ps_set (i := 5) sc_law.nd rfl (Or.inl rfl) (pe_lst pa_nil)) (pss_cons (ps_for pOwn rfl (k_listI (K := K) rfl (pe_call G_Lrings (hr.mono (by decide)) (by rfl) TX.g_Lrings k_Lrings b_Lrings .nil pE (pa_cons (pv 4) pa_nil))) (pg_name (i := 6) sc_law.nd rfl (Or.inl rfl)) (pss_one (ps_expr (pe_bm PySem.F.plainAttrs_list PySem.F.slot_list_append PySem.F.type_list_append mt_append (pv 5) (pa_cons (pe_ix (k_ixt (K := K) rfl) (pe_callB (k_minP (K := K) rfl rfl hr.units) (by rfl) TX.z_min (by decide +kernel) (pa_cons (pe_lc (own := [("_law_agent", 7)]) (g := gName 7) rfl sc_law.nd (k_tupI (K := K) rfl (pv 6)) (blkOk_by (N := ["_law_script", "_law_state", "_law_grown_here", "_law_table_here", "_law_t", "_law_some", "_law_ring", "_law_agent", "_law_weight_here", "_law_again", "_law_found", "_law_agents"]) (sc := defScope s_law) (by decide +kernel)) (fun _ _ _ _ _ => pg_name (i := 7) sc_law.nd rfl (Or.inl rfl)) (fun _ _ _ _ _ => by exact pts_nil) (fun _ _ _ _ _ => by exact (pe_tup (pa_cons (pe_call G_Lweight (hr.mono (by decide)) (by rfl) TX.g_Lweight k_Lweight b_Lweight .nil passL (pa_cons (pv 4) (pa_cons (pe_lst (pa_cons (pv 7) pa_nil)) pa_nil))) (pa_cons (pv 7) pa_nil))))) pa_nil)) pe_int (fun _ _ => rfl)) pa_nil))))) (pss_cons (ps_set (i := 8) sc_law.nd rfl (Or.inl rfl) (pe_call G_Lweight (hr.mono (by decide)) (by rfl) TX.g_Lweight k_Lweight b_Lweight .nil pE (pa_cons (pv 4) (pa_cons (pv 5) pa_nil)))) (pss_cons (ps_for pOwn rfl (pi_range1 (by rfl) TX.z_range (pa_cons pe_int pa_nil)) (pg_name (i := 9) sc_law.nd rfl (Or.inl rfl)) (pss_cons (ps_set (i := 10) sc_law.nd rfl (Or.inl rfl) (pe_call G_least (hr.mono (by decide)) (by rfl) TX.g_least k_least b_least .nil pE (pa_cons (pv 3) pa_nil))) (pss_cons (ps_if (pt_not (pt_val (pe_call G_Lsame (hr.mono (by decide)) (by rfl) TX.g_Lsame k_Lsame b_Lsame .nil pE (pa_cons (pv 10) (pa_cons (pe_tup (pa_cons (pv 8) (pa_cons (pe_callB (k_sortedI (K := K) rfl) (by rfl) TX.z_sorted (by decide +kernel) (pa_cons (pv 5) pa_nil)) pa_nil))) pa_nil))))) (pss_one (ps_ret pe_bl)) pss_nil) (pss_one (ps_expr (pe_bm PySem.F.plainAttrs_list PySem.F.slot_list_append PySem.F.type_list_append mt_append (pe_ix (k_ixt (K := K) rfl) (pv 10) pe_int (fun _ _ => rfl)) (pa_cons pe_int pa_nil))))))) (pss_cons (ps_if (pt_val (pe_call G_Lleft (hr.mono (by decide)) (by rfl) TX.g_Lleft k_Lleft b_Lleft .nil pE (pa_cons (pv 4) (pa_cons (pv 5) pa_nil)))) (pss_one (ps_ret pe_bl)) pss_nil) (pss_cons (ps_for pOwn rfl (k_listI (K := K) rfl (pe_call G_Lsets (hr.mono (by decide)) (by rfl) TX.g_Lsets k_Lsets b_Lsets .nil pE (pa_cons (pe_callB (k_len (K := K) rfl) (by rfl) TX.z_len (by decide +kernel) (pa_cons (pe_dget (hu_of hr) (pv 4) pe_str (fun _ _ => rfl)) pa_nil)) pa_nil))) (pg_name (i := 11) sc_law.nd rfl (Or.inl rfl)) (pss_one (ps_if (PW.pt (pw_and (pt_cmpR (op_lt) (pe_call G_Lweight (hr.mono (by decide)) (by rfl) TX.g_Lweight k_Lweight b_Lweight .nil pE (pa_cons (pv 4) (pa_cons (pv 11) pa_nil))) (pv 8) (nomark _)) (pw_and1 (pt_not (pt_val (pe_call G_Lleft (hr.mono (by decide)) (by rfl) TX.g_Lleft k_Lleft b_Lleft .nil pE (pa_cons (pv 4) (pa_cons (pv 11) pa_nil)))))))) (pss_one (ps_ret pe_bl)) pss_nil))) (pss_cons (ps_for pOwn rfl (k_listI (K := K) rfl (pv 5)) (pg_name (i := 7) sc_law.nd rfl (Or.inl rfl)) (pss_one (ps_expr (pe_meth (pv 3) TX.c_Table TX.m_t_leave G_t_leave (hr.mono (by decide)) b_t_leave .nil pE (pa_cons (pv 7) pa_nil))))) (pss_one (ps_ret (pe_cmpR (k_eqD (K := K) rfl hr.units) (pe_call G_rings (hr.mono (by decide)) (by rfl) TX.g_rings k_rings b_rings .nil pE (pa_cons (pv 3) pa_nil)) (pe_lst pa_nil) (nomark _))))))))))))))), ?_⟩
    refine r_st (σ' := [some x, none, none, none, none, none, none, none, none, none, none, none]) rfl ?_
    try dsimp only [cxOf]
    obtain ⟨sc, ns, rfl, hs, hl, hTs, hq⟩ := h
    walk_at "sx"
    refine ⟨sc, ns, rfl, hs, hl, fun st H1 hst hS1 f1 => ?_⟩
    have hF : ScF K sc ns (Only1 st) := scF_of hs (fun b hb => by rw [show b = st from hb]; exact hst)
    have hTs1 := tabs_fr hTs f1 old_no
    walk_at "sx"
    refine ⟨st, sc, ns, 50, rfl, rfl, by decide, hS1, hF, hTs1, fun A D T p H2 e2 L W0 => ?_⟩
    walk_at "sx"
    refine ⟨rfl, ?_⟩
    walk_at "sx"
    refine r_dec (fun g => by cases g) (fun _ => ?_)
    walk_at "sx"
    refine ⟨p, _, rfl, SqT.of e2, rfl, ?_⟩
    refine ⟨_, _, rfl, ?_⟩
    refine ⟨_, _, rfl, ?_⟩
    refine ⟨rfl, ?_⟩
    have hA := L.tb
    have hD := L.ld
    have hW := L.wf
    obtain ⟨k1, k2⟩ := Tb.rings_len hW
    have hll := Tb.lights_len hW
    walk_at "sx"
    refine r_newL (Nat.zero_le _) (fun pf H3 hpf epf f3 => ?_)
    walk_at "sx"
    -- the lightest of each ring
    refine r_forLx ?_
    walk_at "sx"
    refine ⟨D, T, rfl, hD.fr0 f3, hW, fun pr H4 hpr epr f4 => ?_⟩
    obtain ⟨vr, er, ar⟩ := epr
    have hvl : vr.length = T.ringsT.length := by rw [ar.len, List.length_map]
    have npr : pr ≠ pf := ne_fresh epf hpr
    refine r_lstOn er (fun i σ' H' => ∃ x6, σ' = [some (.ref sc), some (.ref st), some (.ref p), some (.ref A.p), some (.ref D.d), some (.ref pf), x6, none, none, none, none, none] ∧ Fr No H2 H' ∧ H' pr = some (.lst vr) ∧ TdAll H' vr (T.ringsT.map ringD) ∧ H' pf = some (.lst (((T.ringsT.take i).map T.lightT).map nV))) ⟨_, rfl, f3.trans f4, er, ar, f4.lst epf⟩ (fun i σ' H' _ pp => ?_) (fun i x σ' H5 hx pp => ?_) (fun σ' H5 pp => ?_)
    · obtain ⟨x6, rfl, _, e, _⟩ := pp
      exact SqL.of e
    · obtain ⟨x6, rfl, f5, er5, ar5, ep5⟩ := pp
      obtain ⟨r, a, eri, rfl, ea⟩ := ring_at ar5 hx
      have hrm := List.mem_of_getElem? eri
      obtain ⟨kr1, kr2⟩ := k2 r hrm
      have R := (Tb.mem_rings hW).mp hrm
      walk_at "sx"
      refine r_tyL ep5 ?_
      walk_at "sx"
      refine r_lcT (a := a) (xs := r.map nV) (fun _ => true) (fun i => pairD (T.wtP (r.getD i 0))) (by rw [List.length_map]; omega) (fun Q q => by walk_at "sx"; exact q) ea (fun _ => rfl) (fun i x H' hx f => tells_yes) (fun i x H' hx _ f Q q => ?_) (fun pc H6 hpc elc f6 => ?_)
      · obtain ⟨z, ez, rfl⟩ := nats_at hx
        have eg : r.getD i 0 = z := by rw [List.getD_eq_getElem?_getD, ez]; rfl
        walk_at "sx"
        refine r_newL (by show 1 ≤ 1000; decide) (fun p7 H7 hp7 e7 f7 => ?_)
        walk_at "sx"
        refine ⟨D, T, [z], rfl, ((hD.fr0 f5).fr0 f).fr0 f7, ⟨p7, rfl, .inl e7⟩, by show 1 ≤ 900; decide, fun H8 f8 => ?_⟩
        walk_at "sx"
        refine r_newT (by show 2 ≤ 1000; decide) (fun t H9 ht et f9 => ?_)
        have ew : T.wts [z] = T.wt z := by unfold Tb.wts; simp
        rw [ew] at et
        rw [eg] at q
        exact q _ H9 ((f7.trans f8).trans f9) (.tup et (.cons (.int _) (.cons (.int _) .nil)))
      rw [List.length_map, turns_list r 0 (fun _ => true) (fun a => pairD (T.wtP a)), List.filter_eq_self.mpr (fun _ _ => rfl)] at elc
      have em : r.map (fun a => pairD (T.wtP a)) = (r.map T.wtP).map pairD := by rw [List.map_map]; rfl
      rw [em] at elc
      walk_at "sx"
      refine r_minPairs elc (fun z => kr2 (List.map_eq_nil_iff.mp z)) (fun m t hm hle ht => ?_)
      obtain ⟨z, hz, rfl⟩ := List.mem_map.mp hm
      have el := Tb.light_one (T := T) hz (fun b hb => hle _ (List.mem_map.mpr ⟨b, hb, rfl⟩))
      walk_at "sx"
      refine r_ixt (i := 1) (v := nV z) ht rfl ?_
      have hl3 : ((T.ringsT.take i).map T.lightT).length ≤ 8 := by rw [List.length_map, List.length_take]; omega
      walk_at "sx"
      refine r_append (f6.lst ep5) (by rw [List.length_map]; omega) ?_
      have fw : Fr (Only1 pf) H6 (upd H6 pf (.lst ((((T.ringsT.take i).map T.lightT).map nV) ++ [nV z]))) := Fr.put (f6.lst ep5) (fun xs z => by cases z)
      refine ⟨_, rfl, (f5.trans f6).mut hpf, fw.old _ _ (f6.lst er5) npr, (ar5.fr f6).fr fw, ?_⟩
      rw [upd_same, List.take_succ, eri]
      show some (HO.lst (((T.ringsT.take i).map T.lightT).map nV ++ [nV z])) = _
      rw [← el]
      simp
    obtain ⟨x6, rfl, f5, er5, ar5, ep5⟩ := pp
    rw [hvl, List.take_length] at ep5
    have epl : H5 pf = some (.lst (T.lights.map nV)) := ep5
    walk_at "sx"
    refine ⟨D, T, T.lights, rfl, hD.fr0 f5, ⟨pf, rfl, .inl epl⟩, by omega, fun H6 f6 => ?_⟩
    walk_at "sx"
    have hA6 := (hA.fr0 f5).fr0 f6
    have hD6 := (hD.fr0 f5).fr0 f6
    have ep6 := f6.lst epl
    -- told twice
    refine r_forR (n := 2) (by decide) (fun Q q => by walk_at "sx"; exact q) (fun i σ' H' => ∃ x9 x10, σ' = [some (.ref sc), some (.ref st), some (.ref p), some (.ref A.p), some (.ref D.d), some (.ref pf), x6, none, some (.int (T.wts T.lights : Int)), x9, x10, none] ∧ Fr No H6 H') ⟨_, _, rfl, Fr.refl⟩ (fun i σ' H7 hi pp => ?_) (fun σ' H7 pp => ?_)
    · obtain ⟨x9, x10, rfl, f7⟩ := pp
      walk_at "sx"
      refine ⟨A, T, rfl, hA6.fr0 f7, hW, fun pl ps zs H8 epl hps eps perm pw f8 => ?_⟩
      have ep8 := f8.lst (f7.lst ep6)
      have e8 : H8 pf = some (.lst ((T.lights.map fun x : Nat => (x : Int)).map V.int)) := by
        rw [ep8, List.map_map]
        rfl
      walk_at "sx"
      refine ⟨pf, _, rfl, SqL.of e8, fun zs2 ps2 perm2 pw2 hps2 => ?_⟩
      have ez : zs2 = zs := perm_one (perm2.trans perm.symm) pw2 pw
      subst ez
      have hzl : zs2.length ≤ 8 := by rw [perm2.length_eq, List.length_map]; omega
      have f9 : Fr No H8 (upd H8 ps2 (.lst (zs2.map V.int))) := Fr.new hps2
      have e9 : (upd H8 ps2 (.lst (zs2.map V.int))) ps2 = some (.lst (zs2.map V.int)) := upd_same
      generalize upd H8 ps2 (.lst (zs2.map V.int)) = H9 at f9 e9
      walk_at "sx"
      refine r_newT (by show 2 ≤ 1000; decide) (fun t H10 ht et f10 => ?_)
      have dl : ∀ {H' : Hp} {a : Addr}, H' a = some (.lst (zs2.map V.int)) → Dd H' (.ref a) (.list (zs2.map PyData.int)) := fun e => .lst e (by rw [List.length_map]; omega) (dd_ints _)
      have epl10 := f10.tup _ _ (f9.tup _ _ epl)
      walk_at "sx"
      refine ⟨.tuple [.int (T.wts T.lights : Int), .list (zs2.map PyData.int)], .tup epl10 (by show 2 ≤ 1000; decide) (.cons (.int _) (.cons (dl (f10.lst (f9.lst eps))) .nil)), .tup et (by show 2 ≤ 1000; decide) (.cons (.int _) (.cons (dl (f10.lst e9)) .nil)), ?_, fun H11 f11 => ?_⟩
      · have := (ints_all zs2).2
        simp only [PyData.depth, PyData.depthAll, this]
        decide
      walk_at "sx"
      refine r_ixt (i := 1) (v := .ref ps) (f11.tup _ _ epl10) rfl ?_
      have eps11 := f11.lst (f10.lst (f9.lst eps))
      refine r_tyL eps11 ?_
      walk_at "sx"
      refine r_append eps11 (by rw [List.length_map]; omega) ?_
      exact ⟨_, _, rfl, ((((f7.trans f8).trans f9).trans f10).trans f11).mut (f7.fresh hps)⟩
    obtain ⟨x9, x10, rfl, f7⟩ := pp
    walk_at "sx"
    -- where all these leave
    refine ⟨D, T, T.lights, rfl, hD6.fr0 f7, hW, ⟨pf, rfl, .inl (f7.lst ep6)⟩, Tb.lights_lt hW, fun H8 f8 => ?_⟩
    rw [decide_eq_true (Tb.lights_break hW)]
    walk_at "sx"
    have f78 := f7.trans f8
    -- all sets
    refine r_forLx ?_
    walk_at "sx"
    refine r_dgWan (hD6.fr0 f78) ?_
    walk_at "sx"
    refine l_lenWan (hD6.fr0 f78) ?_
    walk_at "sx"
    refine ⟨T.n, rfl, hW.sz.n8, fun pz H9 hpz epz f9 => ?_⟩
    obtain ⟨vz, ez, az⟩ := epz
    have hvz : vz.length = (setsT T.n).length := by rw [az.len, List.length_map]
    refine r_lstOn ez (fun i σ' H' => ∃ x11, σ' = [some (.ref sc), some (.ref st), some (.ref p), some (.ref A.p), some (.ref D.d), some (.ref pf), x6, none, some (.int (T.wts T.lights : Int)), x9, x10, x11] ∧ Fr No H9 H') ⟨_, rfl, Fr.refl⟩ (fun i σ' H' _ pp => ?_) (fun i x σ' H10 hx pp => ?_) (fun σ' H10 pp => ?_)
    · obtain ⟨x11, rfl, f⟩ := pp
      exact SqL.of (f.lst ez)
    · obtain ⟨x11, rfl, f10⟩ := pp
      obtain ⟨s, a, es, rfl, ea⟩ := ring_at az hx
      obtain ⟨s1, s2⟩ := sets_ok (List.mem_of_getElem? es)
      have s3 := sets_mem_le hW.sz.n8 (List.mem_of_getElem? es)
      have g10 := (f78.trans f9).trans f10
      walk_at "sx"
      refine ⟨D, T, s, rfl, hD6.fr0 g10, ⟨a, rfl, .inr (f10.tup _ _ ea)⟩, by omega, fun H11 f11 => ?_⟩
      walk_at "sx"
      refine r_dec (fun g => ?_) (fun g => ?_)
      · walk_at "sx"
        refine ⟨D, T, s, rfl, (hD6.fr0 g10).fr0 f11, hW, ⟨a, rfl, .inr (f11.tup _ _ (f10.tup _ _ ea))⟩, s2, fun H12 f12 => ?_⟩
        have nb : ¬ (T.leaveAll s).ringsT = [] := fun z => by
          have := Tb.lights_least hW s1 s2 z
          omega
        rw [decide_eq_false nb]
        walk_at "sx"
        exact ⟨_, rfl, (f10.trans f11).trans f12⟩
      · walk_at "sx"
        exact ⟨_, rfl, f10.trans f11⟩
    obtain ⟨x11, rfl, f10⟩ := pp
    have g10 := (f78.trans f9).trans f10
    walk_at "sx"
    -- they leave
    have hA10 := hA6.fr0 g10
    have nfA : ¬ A.foot pf := fun z => by
      obtain ⟨o, e, _⟩ := hA.old (TA.has_foot z)
      rw [show H2 pf = none from hpf] at e
      cases e
    refine r_forL (a := pf) (xs := T.lights.map nV) (fun Q q => by walk_at "sx"; exact q) (SqL.of (g10.lst ep6)) (fun i σ' H' => ∃ x7, σ' = [some (.ref sc), some (.ref st), some (.ref p), some (.ref A.p), some (.ref D.d), some (.ref pf), x6, x7, some (.int (T.wts T.lights : Int)), x9, x10, x11] ∧ TbK K H' A (T.leaveAll (T.lights.take i)) ∧ H' pf = some (.lst (T.lights.map nV))) ⟨_, rfl, hA10, g10.lst ep6⟩ (fun i σ' H' _ pp => ?_) (fun i x σ' H11 hx pp => ?_) (fun σ' H11 pp => ?_)
    · obtain ⟨x7, rfl, _, e⟩ := pp
      exact SqL.of e
    · obtain ⟨x7, rfl, hA11, e11⟩ := pp
      obtain ⟨z, ezz, rfl⟩ := nats_at hx
      have hlt' : ∀ b ∈ T.lights.take i, b < T.n := fun b hb => Tb.lights_lt hW b (List.mem_of_mem_take hb)
      obtain ⟨hW2, hn2⟩ := Tb.Wf.leaveAll hW hlt'
      have hz : z < (T.leaveAll (T.lights.take i)).n := by rw [hn2]; exact Tb.lights_lt hW z (List.mem_of_getElem? ezz)
      have eL := Tb.leaveR_nat hz
      walk_at "sx"
      refine r_tmeth hA11 (by decide +kernel) ?_
      walk_at "sx"
      refine ⟨A, _, (z : Int), rfl, rfl, hA11, hW2, (fun w T' e => by rw [eL] at e; cases e), fun b T' e p H12 hA12 f12 hp _ => ?_⟩
      rw [eL] at e
      cases e
      walk_at "sx"
      refine ⟨_, rfl, ?_, f12.old _ _ e11 nfA⟩
      rw [List.take_succ, ezz]
      show TbK K H12 A (T.leaveAll (T.lights.take i ++ [z]))
      rw [Tb.leaveAll_snoc]
      exact hA12
    obtain ⟨x7, rfl, hA11, e11⟩ := pp
    rw [List.length_map, List.take_length] at hA11
    obtain ⟨hW2, hn2⟩ := Tb.Wf.leaveAll hW (Tb.lights_lt hW)
    walk_at "sx"
    refine ⟨A, _, rfl, hA11, hW2, fun pr2 H12 hpr2 er2 f12 => ?_⟩
    rw [Tb.lights_break hW] at er2
    walk_at "sx"
    refine r_newL (Nat.zero_le _) (fun p3 H13 hp3 e13 f13 => ?_)
    refine r_eqNil (er2.fr f13 (fun z => z)).dp CmpAll.nil e13 ?_
    exact hq _
end
def d_next_of : He.DefD := ⟨("next_of", none), "next_of", "next_of", defArgs s_next_of, defBody s_next_of, defScope s_next_of, [], []⟩
def d_chain : He.DefD := ⟨("chain", none), "chain", "chain", defArgs s_chain, defBody s_chain, defScope s_chain, [], []⟩
def d_ring_of : He.DefD := ⟨("ring_of", none), "ring_of", "ring_of", defArgs s_ring_of, defBody s_ring_of, defScope s_ring_of, [], []⟩
def d_rings : He.DefD := ⟨("rings", none), "rings", "rings", defArgs s_rings, defBody s_rings, defScope s_rings, [], []⟩
def d_lightest : He.DefD := ⟨("lightest", none), "lightest", "lightest", defArgs s_lightest, defBody s_lightest, defScope s_lightest, [], []⟩
def d_least : He.DefD := ⟨("least", none), "least", "least", defArgs s_least, defBody s_least, defScope s_least, [], []⟩
def d_t_init : He.DefD := ⟨("Table", some "__init__"), "__init__", "Table.__init__", defArgs s_t_init, defBody s_t_init, defScope s_t_init, [], []⟩
def d_t_need_agent : He.DefD := ⟨("Table", some "need_agent"), "need_agent", "Table.need_agent", defArgs s_t_need_agent, defBody s_t_need_agent, defScope s_t_need_agent, [], []⟩
def d_t_need_lock : He.DefD := ⟨("Table", some "need_lock"), "need_lock", "Table.need_lock", defArgs s_t_need_lock, defBody s_t_need_lock, defScope s_t_need_lock, [], []⟩
def d_t_need_both : He.DefD := ⟨("Table", some "need_both"), "need_both", "Table.need_both", defArgs s_t_need_both, defBody s_t_need_both, defScope s_t_need_both, [], []⟩
def d_t_need_free_to : He.DefD := ⟨("Table", some "need_free_to"), "need_free_to", "Table.need_free_to", defArgs s_t_need_free_to, defBody s_t_need_free_to, defScope s_t_need_free_to, [], []⟩
def d_t_take : He.DefD := ⟨("Table", some "take"), "take", "Table.take", defArgs s_t_take, defBody s_t_take, defScope s_t_take, [], []⟩
def d_t_ask : He.DefD := ⟨("Table", some "ask"), "ask", "Table.ask", defArgs s_t_ask, defBody s_t_ask, defScope s_t_ask, [], []⟩
def d_t_pass_on : He.DefD := ⟨("Table", some "pass_on"), "pass_on", "Table.pass_on", defArgs s_t_pass_on, defBody s_t_pass_on, defScope s_t_pass_on, [], []⟩
def d_t_give : He.DefD := ⟨("Table", some "give"), "give", "Table.give", defArgs s_t_give, defBody s_t_give, defScope s_t_give, [], []⟩
def d_t_leave : He.DefD := ⟨("Table", some "leave"), "leave", "Table.leave", defArgs s_t_leave, defBody s_t_leave, defScope s_t_leave, [], []⟩
def d_t_waits : He.DefD := ⟨("Table", some "waits"), "waits", "Table.waits", defArgs s_t_waits, defBody s_t_waits, defScope s_t_waits, [], []⟩
def d_t_held : He.DefD := ⟨("Table", some "held"), "held", "Table.held", defArgs s_t_held, defBody s_t_held, defScope s_t_held, [], []⟩
def d_t_holder : He.DefD := ⟨("Table", some "holder"), "holder", "Table.holder", defArgs s_t_holder, defBody s_t_holder, defScope s_t_holder, [], []⟩
def d_t_agents : He.DefD := ⟨("Table", some "agents"), "agents", "Table.agents", defArgs s_t_agents, defBody s_t_agents, defScope s_t_agents, [], []⟩
def d_t_locks : He.DefD := ⟨("Table", some "locks"), "locks", "Table.locks", defArgs s_t_locks, defBody s_t_locks, defScope s_t_locks, [], []⟩
def d_Lstart : He.DefD := ⟨("_law_start", none), "_law_start", "_law_start", defArgs s_Lstart, defBody s_Lstart, defScope s_Lstart, [], []⟩
def d_Ldrawn : He.DefD := ⟨("_law_drawn", none), "_law_drawn", "_law_drawn", defArgs s_Ldrawn, defBody s_Ldrawn, defScope s_Ldrawn, [], []⟩
def d_Lsame : He.DefD := ⟨("_law_same", none), "_law_same", "_law_same", defArgs s_Lsame, defBody s_Lsame, defScope s_Lsame, [], []⟩
def d_Ltable : He.DefD := ⟨("_law_table", none), "_law_table", "_law_table", defArgs s_Ltable, defBody s_Ltable, defScope s_Ltable, [], []⟩
def d_Lgot : He.DefD := ⟨("_law_got", none), "_law_got", "_law_got", defArgs s_Lgot, defBody s_Lgot, defScope s_Lgot, [], []⟩
def d_Lpassed : He.DefD := ⟨("_law_passed", none), "_law_passed", "_law_passed", defArgs s_Lpassed, defBody s_Lpassed, defScope s_Lpassed, [], []⟩
def d_Lfault : He.DefD := ⟨("_law_fault", none), "_law_fault", "_law_fault", defArgs s_Lfault, defBody s_Lfault, defScope s_Lfault, [], []⟩
def d_Lask : He.DefD := ⟨("_law_ask", none), "_law_ask", "_law_ask", defArgs s_Lask, defBody s_Lask, defScope s_Lask, [], []⟩
def d_Lgive : He.DefD := ⟨("_law_give", none), "_law_give", "_law_give", defArgs s_Lgive, defBody s_Lgive, defScope s_Lgive, [], []⟩
def d_Lheld : He.DefD := ⟨("_law_held", none), "_law_held", "_law_held", defArgs s_Lheld, defBody s_Lheld, defScope s_Lheld, [], []⟩
def d_Lleave : He.DefD := ⟨("_law_leave", none), "_law_leave", "_law_leave", defArgs s_Lleave, defBody s_Lleave, defScope s_Lleave, [], []⟩
def d_Lkind : He.DefD := ⟨("_law_kind", none), "_law_kind", "_law_kind", defArgs s_Lkind, defBody s_Lkind, defScope s_Lkind, [], []⟩
def d_Ldeed : He.DefD := ⟨("_law_deed", none), "_law_deed", "_law_deed", defArgs s_Ldeed, defBody s_Ldeed, defScope s_Ldeed, [], []⟩
def d_Ldue : He.DefD := ⟨("_law_due", none), "_law_due", "_law_due", defArgs s_Ldue, defBody s_Ldue, defScope s_Ldue, [], []⟩
def d_Ldoes : He.DefD := ⟨("_law_does", none), "_law_does", "_law_does", defArgs s_Ldoes, defBody s_Ldoes, defScope s_Ldoes, [], []⟩
def d_Lgrown : He.DefD := ⟨("_law_grown", none), "_law_grown", "_law_grown", defArgs s_Lgrown, defBody s_Lgrown, defScope s_Lgrown, [], []⟩
def d_Lnext : He.DefD := ⟨("_law_next", none), "_law_next", "_law_next", defArgs s_Lnext, defBody s_Lnext, defScope s_Lnext, [], []⟩
def d_Lrings : He.DefD := ⟨("_law_rings", none), "_law_rings", "_law_rings", defArgs s_Lrings, defBody s_Lrings, defScope s_Lrings, [], []⟩
def d_Lcopy : He.DefD := ⟨("_law_copy", none), "_law_copy", "_law_copy", defArgs s_Lcopy, defBody s_Lcopy, defScope s_Lcopy, [], []⟩
def d_Lleft : He.DefD := ⟨("_law_left", none), "_law_left", "_law_left", defArgs s_Lleft, defBody s_Lleft, defScope s_Lleft, [], []⟩
def d_Lweight : He.DefD := ⟨("_law_weight", none), "_law_weight", "_law_weight", defArgs s_Lweight, defBody s_Lweight, defScope s_Lweight, [], []⟩
def d_Lsets : He.DefD := ⟨("_law_sets", none), "_law_sets", "_law_sets", defArgs s_Lsets, defBody s_Lsets, defScope s_Lsets, [], []⟩
def d_law : He.DefD := ⟨("law", none), "law", "law", defArgs s_law, defBody s_law, defScope s_law, [], []⟩
def fn : List He.DefD := [d_next_of, d_chain, d_ring_of, d_rings, d_lightest, d_least, d_t_init, d_t_need_agent, d_t_need_lock, d_t_need_both, d_t_need_free_to, d_t_take, d_t_ask, d_t_pass_on, d_t_give, d_t_leave, d_t_waits, d_t_held, d_t_holder, d_t_agents, d_t_locks, d_Lstart, d_Ldrawn, d_Lsame, d_Ltable, d_Lgot, d_Lpassed, d_Lfault, d_Lask, d_Lgive, d_Lheld, d_Lleave, d_Lkind, d_Ldeed, d_Ldue, d_Ldoes, d_Lgrown, d_Lnext, d_Lrings, d_Lcopy, d_Lleft, d_Lweight, d_Lsets, d_law]
def fa : List He.Fa := [.glo "LockError", .exc "LockError", .glo "NoTable", .exc "NoTable", .glo "NoHall", .exc "NoHall", .glo "NoAgent", .exc "NoAgent", .glo "NoLock", .exc "NoLock", .glo "NoHouse", .exc "NoHouse", .glo "NoLetter", .exc "NoLetter", .glo "Stopped", .exc "Stopped", .glo "Waits", .exc "Waits", .glo "Holds", .exc "Holds", .glo "NotHeld", .exc "NotHeld", .glo "Up", .exc "Up", .glo "Table", .cls "Table", .mkr "Table", .noat "Table" "owners", .noat "Table" "lines", .noat "Table" "times", .noat "Table" "wants", .noat "Table" "rounds", .glo "next_of", .glo "chain", .glo "ring_of", .glo "rings", .glo "lightest", .glo "least", .meth "Table" "need_agent", .meth "Table" "need_lock", .meth "Table" "need_both", .meth "Table" "need_free_to", .meth "Table" "take", .meth "Table" "ask", .meth "Table" "pass_on", .meth "Table" "give", .meth "Table" "leave", .meth "Table" "waits", .meth "Table" "held", .meth "Table" "holder", .meth "Table" "agents", .meth "Table" "locks", .glo "_law_start", .glo "_law_drawn", .glo "_law_same", .glo "_law_table", .glo "_law_got", .glo "_law_passed", .glo "_law_fault", .glo "_law_ask", .glo "_law_give", .glo "_law_held", .glo "_law_leave", .glo "_law_kind", .glo "_law_deed", .glo "_law_due", .glo "_law_does", .glo "_law_grown", .glo "_law_next", .glo "_law_rings", .glo "_law_copy", .glo "_law_left", .glo "_law_weight", .glo "_law_sets", .glo "law", .free "ValueError", .free "bool", .free "dict", .free "int", .free "isinstance", .free "len", .free "list", .free "max", .free "min", .free "range", .free "sorted", .free "str", .free "sum", .free "tuple", .int "MOST_AGENTS" 8, .int "MOST_LOCKS" 12]
def loose0 : List Str := ["_wall", "__name__", "next_of", "chain", "ring_of", "rings", "lightest", "least", "LockError", "NoTable", "NoHall", "NoAgent", "NoLock", "NoHouse", "NoLetter", "Stopped", "Waits", "Holds", "NotHeld", "Up", "MOST_AGENTS", "MOST_LOCKS", "Table", "_law_start", "_law_drawn", "_law_same", "_law_table", "_law_got", "_law_passed", "_law_fault"]
def loose30 : List Str := ["_law_ask", "_law_give", "_law_held", "_law_leave", "_law_kind", "_law_deed", "_law_due", "_law_does", "_law_grown", "_law_next", "_law_rings", "_law_copy", "_law_left", "_law_weight", "_law_sets"]
def loose : List Str := loose0 ++ loose30
def ex (K : PySem.W.Frag) : Bool := decide ((tf.map fun d => (He.cT K d).2).Nodup) && exB K
theorem ex_ok {K : PySem.W.Frag} (h : ex K = true) : decide ((tf.map fun d => (He.cT K d).2).Nodup) = true ∧ exB K = true := Bool.and_eq_true_iff.mp h
abbrev RR : PySem.W.OpenRow := PySem.W.OpenLaw.row PySem.Challenge.rw_asklock_k06_whole_the_least_to_break
abbrev hk : PySem.W.Hook := He.hookX 6 fa fn [] tf ex
def ob (s : PySem.W.SharedT) : He.AlX := He.obsX 6 fa fn [] tf ex (HandSHeadRun.getT s)
theorem ob_eq (s : PySem.W.SharedT) : ob s = hk.obs s.abs := He.obsX_eq (HandSHeadRun.getT_eq s)
theorem run (w : World) : HandSHeadRun.RunEq RR (PySem.W.view RR.prog [48]) hk ob 12000 loose w := by
  intro os
  kernel_rfl
theorem txt_of {K : PySem.W.Frag} {h : Heap} {mg : Str → Option Value} (X : K.In h) (G : h.Ns mainGlobals mg) (c : He.SaysD fa fn K) (e : ex K = true) : Txt K mg := ⟨
  (of_decide_eq_true (ex_ok e).1),
  (let z := He.exc_ok (c.fact 1 (f := .exc "LockError") rfl); ⟨He.glo_ok X G (c.fact 0 (f := .glo "LockError") rfl), z.1, z.2.1, z.2.2.1, z.2.2.2⟩),
  (let z := He.exc_ok (c.fact 3 (f := .exc "NoTable") rfl); ⟨He.glo_ok X G (c.fact 2 (f := .glo "NoTable") rfl), z.1, z.2.1, z.2.2.1, z.2.2.2⟩),
  (let z := He.exc_ok (c.fact 5 (f := .exc "NoHall") rfl); ⟨He.glo_ok X G (c.fact 4 (f := .glo "NoHall") rfl), z.1, z.2.1, z.2.2.1, z.2.2.2⟩),
  (let z := He.exc_ok (c.fact 7 (f := .exc "NoAgent") rfl); ⟨He.glo_ok X G (c.fact 6 (f := .glo "NoAgent") rfl), z.1, z.2.1, z.2.2.1, z.2.2.2⟩),
  (let z := He.exc_ok (c.fact 9 (f := .exc "NoLock") rfl); ⟨He.glo_ok X G (c.fact 8 (f := .glo "NoLock") rfl), z.1, z.2.1, z.2.2.1, z.2.2.2⟩),
  (let z := He.exc_ok (c.fact 11 (f := .exc "NoHouse") rfl); ⟨He.glo_ok X G (c.fact 10 (f := .glo "NoHouse") rfl), z.1, z.2.1, z.2.2.1, z.2.2.2⟩),
  (let z := He.exc_ok (c.fact 13 (f := .exc "NoLetter") rfl); ⟨He.glo_ok X G (c.fact 12 (f := .glo "NoLetter") rfl), z.1, z.2.1, z.2.2.1, z.2.2.2⟩),
  (let z := He.exc_ok (c.fact 15 (f := .exc "Stopped") rfl); ⟨He.glo_ok X G (c.fact 14 (f := .glo "Stopped") rfl), z.1, z.2.1, z.2.2.1, z.2.2.2⟩),
  (let z := He.exc_ok (c.fact 17 (f := .exc "Waits") rfl); ⟨He.glo_ok X G (c.fact 16 (f := .glo "Waits") rfl), z.1, z.2.1, z.2.2.1, z.2.2.2⟩),
  (let z := He.exc_ok (c.fact 19 (f := .exc "Holds") rfl); ⟨He.glo_ok X G (c.fact 18 (f := .glo "Holds") rfl), z.1, z.2.1, z.2.2.1, z.2.2.2⟩),
  (let z := He.exc_ok (c.fact 21 (f := .exc "NotHeld") rfl); ⟨He.glo_ok X G (c.fact 20 (f := .glo "NotHeld") rfl), z.1, z.2.1, z.2.2.1, z.2.2.2⟩),
  (let z := He.exc_ok (c.fact 23 (f := .exc "Up") rfl); ⟨He.glo_ok X G (c.fact 22 (f := .glo "Up") rfl), z.1, z.2.1, z.2.2.1, z.2.2.2⟩),
  (He.glo_ok X G (c.fact 24 (f := .glo "Table") rfl)),
  (He.cls_ok (c.fact 25 (f := .cls "Table") rfl)),
  (He.mkr_ok (c.fact 26 (f := .mkr "Table") rfl)),
  (He.noat_ok (c.fact 27 (f := .noat "Table" "owners") rfl)),
  (He.noat_ok (c.fact 28 (f := .noat "Table" "lines") rfl)),
  (He.noat_ok (c.fact 29 (f := .noat "Table" "times") rfl)),
  (He.noat_ok (c.fact 30 (f := .noat "Table" "wants") rfl)),
  (He.noat_ok (c.fact 31 (f := .noat "Table" "rounds") rfl)),
  (He.glo_ok X G (c.fact 32 (f := .glo "next_of") rfl)),
  (c.def_ 0 (d := d_next_of) rfl),
  (He.glo_ok X G (c.fact 33 (f := .glo "chain") rfl)),
  (c.def_ 1 (d := d_chain) rfl),
  (He.glo_ok X G (c.fact 34 (f := .glo "ring_of") rfl)),
  (c.def_ 2 (d := d_ring_of) rfl),
  (He.glo_ok X G (c.fact 35 (f := .glo "rings") rfl)),
  (c.def_ 3 (d := d_rings) rfl),
  (He.glo_ok X G (c.fact 36 (f := .glo "lightest") rfl)),
  (c.def_ 4 (d := d_lightest) rfl),
  (He.glo_ok X G (c.fact 37 (f := .glo "least") rfl)),
  (c.def_ 5 (d := d_least) rfl),
  (c.def_ 6 (d := d_t_init) rfl),
  (He.meth_ok (c.fact 38 (f := .meth "Table" "need_agent") rfl)),
  (c.def_ 7 (d := d_t_need_agent) rfl),
  (He.meth_ok (c.fact 39 (f := .meth "Table" "need_lock") rfl)),
  (c.def_ 8 (d := d_t_need_lock) rfl),
  (He.meth_ok (c.fact 40 (f := .meth "Table" "need_both") rfl)),
  (c.def_ 9 (d := d_t_need_both) rfl),
  (He.meth_ok (c.fact 41 (f := .meth "Table" "need_free_to") rfl)),
  (c.def_ 10 (d := d_t_need_free_to) rfl),
  (He.meth_ok (c.fact 42 (f := .meth "Table" "take") rfl)),
  (c.def_ 11 (d := d_t_take) rfl),
  (He.meth_ok (c.fact 43 (f := .meth "Table" "ask") rfl)),
  (c.def_ 12 (d := d_t_ask) rfl),
  (He.meth_ok (c.fact 44 (f := .meth "Table" "pass_on") rfl)),
  (c.def_ 13 (d := d_t_pass_on) rfl),
  (He.meth_ok (c.fact 45 (f := .meth "Table" "give") rfl)),
  (c.def_ 14 (d := d_t_give) rfl),
  (He.meth_ok (c.fact 46 (f := .meth "Table" "leave") rfl)),
  (c.def_ 15 (d := d_t_leave) rfl),
  (He.meth_ok (c.fact 47 (f := .meth "Table" "waits") rfl)),
  (c.def_ 16 (d := d_t_waits) rfl),
  (He.meth_ok (c.fact 48 (f := .meth "Table" "held") rfl)),
  (c.def_ 17 (d := d_t_held) rfl),
  (He.meth_ok (c.fact 49 (f := .meth "Table" "holder") rfl)),
  (c.def_ 18 (d := d_t_holder) rfl),
  (He.meth_ok (c.fact 50 (f := .meth "Table" "agents") rfl)),
  (c.def_ 19 (d := d_t_agents) rfl),
  (He.meth_ok (c.fact 51 (f := .meth "Table" "locks") rfl)),
  (c.def_ 20 (d := d_t_locks) rfl),
  (He.glo_ok X G (c.fact 52 (f := .glo "_law_start") rfl)),
  (c.def_ 21 (d := d_Lstart) rfl),
  (He.glo_ok X G (c.fact 53 (f := .glo "_law_drawn") rfl)),
  (c.def_ 22 (d := d_Ldrawn) rfl),
  (He.glo_ok X G (c.fact 54 (f := .glo "_law_same") rfl)),
  (c.def_ 23 (d := d_Lsame) rfl),
  (He.glo_ok X G (c.fact 55 (f := .glo "_law_table") rfl)),
  (c.def_ 24 (d := d_Ltable) rfl),
  (He.glo_ok X G (c.fact 56 (f := .glo "_law_got") rfl)),
  (c.def_ 25 (d := d_Lgot) rfl),
  (He.glo_ok X G (c.fact 57 (f := .glo "_law_passed") rfl)),
  (c.def_ 26 (d := d_Lpassed) rfl),
  (He.glo_ok X G (c.fact 58 (f := .glo "_law_fault") rfl)),
  (c.def_ 27 (d := d_Lfault) rfl),
  (He.glo_ok X G (c.fact 59 (f := .glo "_law_ask") rfl)),
  (c.def_ 28 (d := d_Lask) rfl),
  (He.glo_ok X G (c.fact 60 (f := .glo "_law_give") rfl)),
  (c.def_ 29 (d := d_Lgive) rfl),
  (He.glo_ok X G (c.fact 61 (f := .glo "_law_held") rfl)),
  (c.def_ 30 (d := d_Lheld) rfl),
  (He.glo_ok X G (c.fact 62 (f := .glo "_law_leave") rfl)),
  (c.def_ 31 (d := d_Lleave) rfl),
  (He.glo_ok X G (c.fact 63 (f := .glo "_law_kind") rfl)),
  (c.def_ 32 (d := d_Lkind) rfl),
  (He.glo_ok X G (c.fact 64 (f := .glo "_law_deed") rfl)),
  (c.def_ 33 (d := d_Ldeed) rfl),
  (He.glo_ok X G (c.fact 65 (f := .glo "_law_due") rfl)),
  (c.def_ 34 (d := d_Ldue) rfl),
  (He.glo_ok X G (c.fact 66 (f := .glo "_law_does") rfl)),
  (c.def_ 35 (d := d_Ldoes) rfl),
  (He.glo_ok X G (c.fact 67 (f := .glo "_law_grown") rfl)),
  (c.def_ 36 (d := d_Lgrown) rfl),
  (He.glo_ok X G (c.fact 68 (f := .glo "_law_next") rfl)),
  (c.def_ 37 (d := d_Lnext) rfl),
  (He.glo_ok X G (c.fact 69 (f := .glo "_law_rings") rfl)),
  (c.def_ 38 (d := d_Lrings) rfl),
  (He.glo_ok X G (c.fact 70 (f := .glo "_law_copy") rfl)),
  (c.def_ 39 (d := d_Lcopy) rfl),
  (He.glo_ok X G (c.fact 71 (f := .glo "_law_left") rfl)),
  (c.def_ 40 (d := d_Lleft) rfl),
  (He.glo_ok X G (c.fact 72 (f := .glo "_law_weight") rfl)),
  (c.def_ 41 (d := d_Lweight) rfl),
  (He.glo_ok X G (c.fact 73 (f := .glo "_law_sets") rfl)),
  (c.def_ 42 (d := d_Lsets) rfl),
  (He.glo_ok X G (c.fact 74 (f := .glo "law") rfl)),
  (c.def_ 43 (d := d_law) rfl),
  (He.free_ok X G (c.fact 75 (f := .free "ValueError") rfl)),
  (He.free_ok X G (c.fact 76 (f := .free "bool") rfl)),
  (He.free_ok X G (c.fact 77 (f := .free "dict") rfl)),
  (He.free_ok X G (c.fact 78 (f := .free "int") rfl)),
  (He.free_ok X G (c.fact 79 (f := .free "isinstance") rfl)),
  (He.free_ok X G (c.fact 80 (f := .free "len") rfl)),
  (He.free_ok X G (c.fact 81 (f := .free "list") rfl)),
  (He.free_ok X G (c.fact 82 (f := .free "max") rfl)),
  (He.free_ok X G (c.fact 83 (f := .free "min") rfl)),
  (He.free_ok X G (c.fact 84 (f := .free "range") rfl)),
  (He.free_ok X G (c.fact 85 (f := .free "sorted") rfl)),
  (He.free_ok X G (c.fact 86 (f := .free "str") rfl)),
  (He.free_ok X G (c.fact 87 (f := .free "sum") rfl)),
  (He.free_ok X G (c.fact 88 (f := .free "tuple") rfl)),
  (He.int_ok X G (c.fact 89 (f := .int "MOST_AGENTS" 8) rfl)),
  (He.int_ok X G (c.fact 90 (f := .int "MOST_LOCKS" 12) rfl)),
  (wdK_of (ex_ok e).2)⟩
theorem at_law {w : World} {mg : Str → Option Value} {h : Heap} {fx : Addr} (G : h.Ns mainGlobals mg) (hmg : mg "law" = some (.ref fx)) (Y : ∃ K : PySem.W.Frag, K.In h ∧ He.SaysX fa fn [] tf ex w h K) :
    ∃ K : PySem.W.Frag, K.In h ∧ LamX.LawAtS PySem.Challenge.rw_asklock_k06_whole_the_least_to_break w K (L2.CX (PySem.Challenge.rw_asklock_k06_whole_the_least_to_break).prog w) 11 63 "_law_script" mg fx h := by
  obtain ⟨K, X, c⟩ := Y
  have TX : Txt K mg := txt_of X G c.t.d c.more
  have e := hmg.symm.trans TX.g_law
  cases e
  obtain ⟨fd, F⟩ := TX.f_law
  have bb := FunD.bindsA (ps := ["_law_script"]) F fun _ _ _ _ _ _ us hl => match us, hl with | [_], _ => rfl
  refine ⟨K, X, fd, tf.map (fun d => He.cT K d), sp_law (Ts K) K, fun p hp => ?_, fun p hp => ?_, fun p hp => ?_, fun s u => bb s [u] rfl, ?_, ?_⟩
  · obtain ⟨d, hd, rfl⟩ := List.mem_map.mp hp
    exact c.empty d hd
  · obtain ⟨d, hd, rfl⟩ := List.mem_map.mp hp
    exact c.out d hd
  · obtain ⟨d, hd, rfl⟩ := List.mem_map.mp hp
    exact PySem.W.codeHd_of_K X (c.hd d hd)
  · intro H a ns hl _ hT hS
    refine ⟨.ref a, rfl, a, ns, rfl, hS, hl, fun p hp => ?_, fun H' => rfl⟩
    obtain ⟨d, hd, e⟩ := List.mem_map.mp hp
    have hz := hT _ (List.mem_map.mpr ⟨d, hd, rfl⟩)
    rw [← e]
    exact LamX.TabS.nil hz
  · intro base Kb Gb TB
    exact ok_law (P := (PySem.Challenge.rw_asklock_k06_whole_the_least_to_break).prog) (w := w) (base := base) TX (fun d hd => TB _ (List.mem_map.mpr ⟨d, hd, rfl⟩)) F
end AL
open PySem PySem.W PySem.Calls PyProof.Rows
theorem PySem.Challenge.cw_asklock_k06_whole_the_least_to_break_holds : PySem.Challenge.rw_asklock_k06_whole_the_least_to_break.Holds := by
  w_on; o_law
  refine HandSHeadRun.head_any (r := OpenLaw.row PySem.Challenge.rw_asklock_k06_whole_the_least_to_break) (q := view (OpenLaw.row PySem.Challenge.rw_asklock_k06_whole_the_least_to_break).prog [48]) (H := AL.hk) (ob := AL.ob) (M := 12000) (loose := AL.loose) (d := HandSHeadRun.topDef (OpenLaw.row PySem.Challenge.rw_asklock_k06_whole_the_least_to_break).prog 48) (kwd := []) AL.ob_eq
    (by kernel_rfl) (fun s => by kernel_rfl) AL.run (by kernel_rfl) (by kernel_rfl) (by kernel_rfl) (by rfl) (by first | assumption | decide +kernel) (by decide +kernel) ⟨rfl, rfl, rfl, rfl, rfl, by decide +kernel⟩ ?hw ?hc
  case hw => w_witness2
  case hc =>
    refine LamX.walk_ofTsE (l := PySem.Challenge.rw_asklock_k06_whole_the_least_to_break) (n := 63) (k := 11) (x := "_law_script") (CX := fun w => L2.CX (PySem.Challenge.rw_asklock_k06_whole_the_least_to_break).prog w) rfl (by decide) (by kernel_rfl) ⟨rfl, by decide, by decide⟩ ?F (fun w H s e s' z => ?_)
    case F =>
      intro w mg fx h Y G hmg0
      have hmg : mg ("law" : PySem.Str) = some (.ref fx) := by
        have e : (HandSHeadRun.topDef (OpenLaw.row PySem.Challenge.rw_asklock_k06_whole_the_least_to_break).prog 48).name = ("law" : PySem.Str) := by kernel_rfl
        rw [← e]
        exact hmg0
      exact AL.at_law G hmg Y
    · obtain ⟨_, _, _, _, _, _, _, _, _, _, _, _, z⟩ := z
      exact z
