import PyProof.Rows.All
import Wide.All
import OpenK.AllK
import Wide.FinOn
import HandS.ForMost
import HandS.ForExc
import HandS.TupAny
import HandS.Deep
import HandS.IsInst
import HandS.ExcIs
import HandS.SortInts
import HandS.SetFor
import HandS.Lambda
import HandS.EndTab
import HandS.HeadHook4
import HandS.HeadWalk
import HandS.Head2
import HandS.Wide
import HandS.TryMany
import HandS.SuiteRaise
import HandS.TryOnly
import HandS.TupLe
import HandS.Zip
import HandS.Walk
import HandS.TupSets
import PySem.Challenge.RW_asklock_k01_tables_and_what_is_none
set_option Elab.async false
set_option linter.all false
set_option maxRecDepth 100000
set_option maxHeartbeats 4000000
namespace AL
open PySem PySem.Spec PyProof.Rows L2

theorem small2000 {n : Nat} (h : n ≤ 2000) : n < sizeLine := Nat.lt_of_le_of_lt h (by decide)
/-- a def of the text keeps its promise -/
structure OkF (P : Program) (w : World) (K : PySem.W.Frag) (mg : Str → Option Value) (base : Heap) (k : Nat) (f : Addr) (ps : List Str) (sp : Sp) : Prop where
  ex : ∃ fd, FnOk P w K mg base (L2.CX P w) k f fd ps sp ∧ Binds K fd ps []
  kp : PySem.W.keepIn K (.ref f) = true

/-- what the text says of a def that stands at f -/
def DefAt (K : PySem.W.Frag) (x qual : Str) (st : Stmt) (f : Addr) : Prop := ∃ fd, FunD K x qual (defArgs st) (defBody st) (defScope st) [] [] f fd

/-- an exception that leaves a callee leaves this def -/
theorem pE {P : Program} {w : World} {K : PySem.W.Frag} {mg : Str → Option Value} {base : Heap} {N : List Str} {qual : Str} {scope : Scope} {f : Addr} {cdv : Value} {A : Around} {outer : List Env} {s : Shared} {H : Hp} {E : XK} :
    Passes (L2.CX P w) (cxOf (L2.CX P w) P w K mg base N qual scope f cdv A outer s H E) E :=
  passes_call (takes_of rfl rfl rfl rfl) fun _ _ _ _ h => h
theorem pOwn {P : Program} {w : World} {K : PySem.W.Frag} {mg : Str → Option Value} {base : Heap} {N : List Str} {qual : Str} {scope : Scope} {f : Addr} {cdv : Value} {A : Around} {outer : List Env} {s : Shared} {H : Hp} {E : XK} :
    PassesOwn (model P w) (cxOf (L2.CX P w) P w K mg base N qual scope f cdv A outer s H E).A (cxOf (L2.CX P w) P w K mg base N qual scope f cdv A outer s H E).env (cxOf (L2.CX P w) P w K mg base N qual scope f cdv A outer s H E).xe :=
  passes_of rfl

/-- from the text: a def's promise -/
theorem okF {P : Program} {w : World} {K : PySem.W.Frag} {mg : Str → Option Value} {base : Heap} {x qual : Str} {st : Stmt} {f : Addr} {N ps : List Str} {k : Nat} {sp : Sp} (F : DefAt K x qual st f) (S : FnScope N ps (defScope st))
    (hbi : ∀ (kV doc pm : Value) (an : Option Addr) (cdv ct : Value) (us : List Value), us.length = ps.length → bindArgs (PySem.W.fnOf x qual (defArgs st) (defBody st) (defScope st) .none kV doc pm an cdv ct) ⟨us, []⟩ = pure (ps.zip us))
    (len : ∀ vs H Q E, sp vs H Q E → vs.length = ps.length)
    (hbody : ∀ (cdv : Value) (A : Around) (outer : List Env) (s : Shared) (H : Hp) (vs : List V) (Q : VK) (E : XK), Room k (A.deeper (envOfC qual (defScope st) s.heap.objs.size f cdv)) → sp vs H Q E →
      ∃ t, PSs (cxOf (L2.CX P w) P w K mg base N qual (defScope st) f cdv A outer s H E) (defBody st) t ∧ t { nx := fun _ H' => Q .non H', rt := Q } (start N vs) H) : OkF P w K mg base (k + 1) f ps sp := by
  obtain ⟨fd, F⟩ := F
  exact ⟨⟨fd, F.ok S len hbody, F.bindsN hbi⟩, F.kp⟩

/-- an own exception class over ValueError, without a method of its own -/
structure ExT (K : PySem.W.Frag) (mg : Str → Option Value) (x : Str) : Prop where
  g : mg x = some (.ref (He.ga K x))
  ex : PySem.W.excIn K (He.ga K x) He.veBase "ValueError.__new__" = true
  k : PySem.W.keepIn K (.ref (He.ga K x)) = true
  b : PySem.W.subIn K (.ref (He.ga K x)) (.type "BaseException") = some true
  t : PySem.W.typeIn K (.ref (He.ga K x)) = some (.type "type")

/-! ### the layer's rules, the written part named -/
section
variable {X : Cx} {K : PySem.W.Frag}
theorem k_fld {e : Expr} {f : Str} {pos : Pos} {ta : TE} (hK : X.K = K) (he : PE X e ta) (hb : attributeBase e f X.env (eval e X.env) = eval e X.env) : PE X (.Attribute e f pos) (tFld K ta f) := hK ▸ pe_fld he hb
theorem kp_fld {o value : Expr} {f : Str} {pos pos' : Pos} {ta tv : TE} (hK : X.K = K) (ha : PE X o ta) (hv : PE X value tv) (hs : swapsWith value (some (.Attribute o f pos')) pos.line X.env = pure false) : PS X (.Assign [.Attribute o f pos'] value pos) (sFld K ta tv f) := hK ▸ ps_fld ha hv hs
theorem k_ixl (hK : X.K = K) : IxR X (rIxL K) := hK ▸ ix_list
theorem k_ixt (hK : X.K = K) : IxR X (rIxT K) := hK ▸ ix_tup
def rLenQ (K : PySem.W.Frag) : List V → Hp → VK → Prop := fun xs H Q => ∃ p ys, xs = [.ref p] ∧ (SqL K H p ys ∨ SqT K H p ys) ∧ Q (.int ys.length) H
theorem k_len (hK : X.K = K) : CallR X (.builtin "len") (rLenQ K) := hK ▸ call_len_seq
theorem k_eqD (hK : X.K = K) (hu : X.A.units + 64 < cLine) : OpR X (compareOp .Eq) (rEqD K) := hK ▸ op_eqD hu
theorem k_neD (hK : X.K = K) (hu : X.A.units + 64 < cLine) : OpR X (compareOp .NotEq) (rNeD K) := hK ▸ op_neD hu
theorem k_inS (hK : X.K = K) : OpR X (compareOp .In) (rIn K false) := hK ▸ op_in_seq
theorem k_notInS (hK : X.K = K) : OpR X (compareOp .NotIn) (rIn K true) := hK ▸ op_notIn_seq
theorem k_inD (hK : X.K = K) (hu : X.A.units + 65 < cLine) : OpR X (compareOp .In) (rInD K) := hK ▸ op_inD hu
theorem k_notInD (hK : X.K = K) (hu : X.A.units + 65 < cLine) : OpR X (compareOp .NotIn) (rNotInD K) := hK ▸ op_notInD hu
theorem k_catA (hK : X.K = K) : OpR X (binaryOp .Add) (rCatA K) := hK ▸ op_catA
theorem k_slL (hK : X.K = K) : SlR X (rSlL K) := hK ▸ sl_list
theorem k_slT (hK : X.K = K) : SlR X (rSlA K) := hK ▸ sl_tupA
def rListQ (K : PySem.W.Frag) : List V → Hp → VK → Prop := fun xs H Q => ∃ p ys, xs = [.ref p] ∧ (SqL K H p ys ∨ SqT K H p ys) ∧ ∀ l, H l = none → Q (.ref l) (upd H l (.lst ys))
theorem k_listOf (hK : X.K = K) : CallR X (.type "list") (rListQ K) := hK ▸ call_list_of
def rTupQ (K : PySem.W.Frag) : List V → Hp → VK → Prop := fun xs H Q => ∃ p ys, xs = [.ref p] ∧ ((SqL K H p ys ∧ ∀ l, H l = none → Q (.ref l) (upd H l (.tup ys))) ∨ (SqT K H p ys ∧ Q (.ref p) H))
theorem k_tupOf (hK : X.K = K) : CallR X (.type "tuple") (rTupQ K) := hK ▸ call_tuple_of
theorem k_isi (hK : X.K = K) : CallR X (.builtin "isinstance") (rIsi K) := hK ▸ call_isi
theorem k_isiT (hK : X.K = K) : CallR X (.builtin "isinstance") (rIsiT K) := hK ▸ call_isiT
theorem k_sortedI (hK : X.K = K) : CallR X (.builtin "sorted") (rSortedI K) := hK ▸ cr_sortedI
theorem k_max (hK : X.K = K) (hc : X.calm = true) : CallR X (.builtin "max") (rMax K) := hK ▸ cr_max hc
theorem k_sum (hK : X.K = K) (hc : X.calm = true) : CallR X (.builtin "sum") (rSum K) := hK ▸ cr_sum hc
theorem k_listI {tg l : Expr} {tl : TE} (hK : X.K = K) (hl : PE X l tl) : PI X tg l (iList K tl) := hK ▸ pi_list hl
theorem k_tupI {tg l : Expr} {tl : TE} (hK : X.K = K) (hl : PE X l tl) : PI X tg l (iTup K tl) := hK ▸ pi_tup hl
theorem k_bm {o e : Expr} {es : List Expr} {to : TE} {t : TA} {name : Str} {apos cpos : Pos} {T id : String} {r : V → List V → Hp → VK → Prop} (hK : X.K = K) (pa : PlainAttrs T) (slot : Slot T name id) (hty : typeOf (.builtin id) = pure (.type "method_descriptor")) (hm : MtR X id r) (ho : PE X o to) (ha : PA X (e :: es) t)
    (h : PE X (.Call (.Attribute o name apos) (e :: es) [] cpos) (tBM X.K T r to t)) : PE X (.Call (.Attribute o name apos) (e :: es) [] cpos) (tBM K T r to t) := hK ▸ h
end
theorem r_lenX {K : PySem.W.Frag} {H : Hp} {Q : VK} {xs : List V} (h : ∃ p ys, xs = [.ref p] ∧ (SqL K H p ys ∨ SqT K H p ys) ∧ Q (.int ys.length) H) : rLenQ K xs H Q := h
theorem r_lenS {K : PySem.W.Frag} {H : Hp} {Q : VK} {a : Addr} {xs : List V} (h : H a = some (.lst xs)) (q : Q (.int (xs.length : Int)) H) : rLenQ K [.ref a] H Q := ⟨a, xs, rfl, .inl (SqL.of h), q⟩
theorem r_lenT {K : PySem.W.Frag} {H : Hp} {Q : VK} {a : Addr} {xs : List V} (h : H a = some (.tup xs)) (q : Q (.int (xs.length : Int)) H) : rLenQ K [.ref a] H Q := ⟨a, xs, rfl, .inr (SqT.of h), q⟩
/-! ### readings -/
/-- a reading's next step -/
class Stp (P : Prop) (Q : outParam Prop) : Prop where
  go : Q → P
theorem stp {P Q : Prop} [i : Stp P Q] (h : Q) : P := i.go h
section
variable {K : PySem.W.Frag} {σ : L2.St} {H : Hp} {Q : VK} {D : Ends} {v x y : V} {ta tb te : TE} {t u : TS} {QB : Bool → Hp → Prop} {tc td : TT} {QA : List V → Hp → Prop}
theorem r_st {σ' : L2.St} (e : σ = σ') (h : t D σ' H) : t D σ H := e ▸ h
theorem r_seq (h : t { D with nx := u D } σ H) : tSeq t u D σ H := h
instance i_seq  : Stp (tSeq t u D σ H) (t { D with nx := u D } σ H) := ⟨r_seq⟩
theorem r_set {i : Nat} (h : te σ H fun v H1 => D.nx (σ.set i (some v)) H1) : tAsg te (gName i) D σ H := h
instance (priority := high) i_set {i : Nat} : Stp (tAsg te (gName i) D σ H) (te σ H fun v H1 => D.nx (σ.set i (some v)) H1) := ⟨r_set⟩
theorem r_ret (h : te σ H D.rt) : tRet te D σ H := h
instance i_ret  : Stp (tRet te D σ H) (te σ H D.rt) := ⟨r_ret⟩
theorem r_retN (h : D.rt .non H) : tRetN D σ H := h
instance i_retN  : Stp (tRetN D σ H) (D.rt .non H) := ⟨r_retN⟩
theorem r_drop (h : te σ H fun _ H1 => D.nx σ H1) : tDrop te D σ H := h
instance i_drop  : Stp (tDrop te D σ H) (te σ H fun _ H1 => D.nx σ H1) := ⟨r_drop⟩
theorem r_next (h : D.nx σ H) : tNext D σ H := h
instance i_next  : Stp (tNext D σ H) (D.nx σ H) := ⟨r_next⟩
theorem r_if (h : tc σ H fun b H1 => if b = true then t D σ H1 else u D σ H1) : tIfS tc t u D σ H := h
instance i_if  : Stp (tIfS tc t u D σ H) (tc σ H fun b H1 => if b = true then t D σ H1 else u D σ H1) := ⟨r_if⟩
theorem r_var {i : Nat} (h : σ[i]? = some (some v)) (q : Q v H) : tVar i σ H Q := ⟨v, h, q⟩
theorem r_c (q : Q v H) : tC v σ H Q := q
instance i_c  : Stp (tC v σ H Q) (Q v H) := ⟨r_c⟩
theorem r_op {r : R2} (h : ta σ H fun x H1 => tb σ H1 fun y H2 => r x y H2 Q) : tOp r ta tb σ H Q := h
instance i_op {r : R2} : Stp (tOp r ta tb σ H Q) (ta σ H fun x H1 => tb σ H1 fun y H2 => r x y H2 Q) := ⟨r_op⟩
theorem r_test (h : te σ H fun x H1 => ∃ k, x = .bl k ∧ QB k H1) : tTest te σ H QB := h
instance i_test  : Stp (tTest te σ H QB) (te σ H fun x H1 => ∃ k, x = .bl k ∧ QB k H1) := ⟨r_test⟩
theorem r_B (h : te σ H fun x H1 => ∃ k, x = .bl k ∧ QB k H1) : tB te σ H QB := h
instance i_B  : Stp (tB te σ H QB) (te σ H fun x H1 => ∃ k, x = .bl k ∧ QB k H1) := ⟨r_B⟩
theorem r_bl {b : Bool} (q : QB b H) : ∃ k, V.bl b = .bl k ∧ QB k H := ⟨b, rfl, q⟩
instance i_bl {b : Bool} : Stp (∃ k, V.bl b = .bl k ∧ QB k H) (QB b H) := ⟨r_bl⟩
theorem r_blk {b : Bool} {P : Bool → Prop} (q : P b) : ∃ k, V.bl b = .bl k ∧ P k := ⟨b, rfl, q⟩
instance i_blk {b : Bool} {P : Bool → Prop} : Stp (∃ k, V.bl b = .bl k ∧ P k) (P b) := ⟨r_blk⟩
theorem r_range {lo a n : Int} (hb : ∀ Q : VK, Q (.int a) H → tb σ H Q) (hk : ∀ Q : VK, Q (.int n) H → te σ H Q) (q : Q (.bl (decide (lo ≤ a ∧ a < n))) H) : tChain (rI0 fun i j => .bl (decide (i ≤ j))) (rI0 fun i j => .bl (decide (i < j))) (tC (.int lo)) tb te σ H Q := by
  refine hb _ ⟨lo, a, rfl, rfl, _, rfl, ?_⟩
  by_cases h : lo ≤ a
  · rw [decide_eq_true h, if_pos rfl]
    refine hk _ ⟨a, n, rfl, rfl, ?_⟩
    have e : decide (lo ≤ a ∧ a < n) = decide (a < n) := by simp [h]
    rw [e] at q
    exact q
  · rw [decide_eq_false h, if_neg Bool.false_ne_true]
    have e : decide (lo ≤ a ∧ a < n) = false := by simp [h]
    rw [e] at q
    exact q
theorem r_not (h : tc σ H fun c H1 => QB (!c) H1) : tNot tc σ H QB := h
instance i_not  : Stp (tNot tc σ H QB) (tc σ H fun c H1 => QB (!c) H1) := ⟨r_not⟩
theorem r_and (h : tc σ H fun c H1 => if c = true then td σ H1 QB else QB false H1) : tAnd tc td σ H QB := h
instance i_and  : Stp (tAnd tc td σ H QB) (tc σ H fun c H1 => if c = true then td σ H1 QB else QB false H1) := ⟨r_and⟩
theorem r_or (h : tc σ H fun c H1 => if c = true then QB true H1 else td σ H1 QB) : tOr tc td σ H QB := h
instance i_or  : Stp (tOr tc td σ H QB) (tc σ H fun c H1 => if c = true then QB true H1 else td σ H1 QB) := ⟨r_or⟩
theorem r_ifE (h : tc σ H fun c H1 => if c = true then ta σ H1 Q else tb σ H1 Q) : tIf tc ta tb σ H Q := h
instance i_ifE  : Stp (tIf tc ta tb σ H Q) (tc σ H fun c H1 => if c = true then ta σ H1 Q else tb σ H1 Q) := ⟨r_ifE⟩
theorem r_I0 {g : Int → Int → V} {i j : Int} (q : Q (g i j) H) : rI0 g (.int i) (.int j) H Q := ⟨i, j, rfl, rfl, q⟩
instance i_I0 {g : Int → Int → V} {i j : Int} : Stp (rI0 g (.int i) (.int j) H Q) (Q (g i j) H) := ⟨r_I0⟩
theorem r_I {C : Int → Int → Prop} {g : Int → Int → V} {i j : Int} (c : C i j) (q : Q (g i j) H) : rI C g (.int i) (.int j) H Q := ⟨i, j, rfl, rfl, c, q⟩
theorem r_eq (h : scal x y = true) (q : Q (.bl (decide (x = y))) H) : rEq x y H Q := ⟨h, q⟩
theorem r_ne (h : scal x y = true) (q : Q (.bl (!decide (x = y))) H) : rNe x y H Q := ⟨h, q⟩
theorem r_dec {P A B : Prop} [Decidable P] (h1 : P → A) (h2 : ¬ P → B) : if decide P = true then A else B := by
  by_cases h : P
  · rw [decide_eq_true h, if_pos rfl]
    exact h1 h
  · rw [decide_eq_false h, if_neg Bool.false_ne_true]
    exact h2 h
theorem r_decN {P A B : Prop} [Decidable P] (h1 : ¬ P → A) (h2 : P → B) : if (!decide P) = true then A else B := by
  by_cases h : P
  · rw [decide_eq_true h]
    exact h2 h
  · rw [decide_eq_false h]
    exact h1 h
theorem r_T {A B : Prop} (h : A) : if true = true then A else B := by rw [if_pos rfl]; exact h
instance i_T {A B : Prop} : Stp (if true = true then A else B) (A) := ⟨r_T⟩
theorem r_F {A B : Prop} (h : B) : if false = true then A else B := by rw [if_neg Bool.false_ne_true]; exact h
instance i_F {A B : Prop} : Stp (if false = true then A else B) (B) := ⟨r_F⟩
theorem r_nil (q : QA [] H) : tNil σ H QA := q
instance i_nil  : Stp (tNil σ H QA) (QA [] H) := ⟨r_nil⟩
theorem r_cons {tr : TA} (h : ta σ H fun x H1 => tr σ H1 fun xs H2 => QA (x :: xs) H2) : tCons ta tr σ H QA := h
instance i_cons {tr : TA} : Stp (tCons ta tr σ H QA) (ta σ H fun x H1 => tr σ H1 fun xs H2 => QA (x :: xs) H2) := ⟨r_cons⟩
theorem r_call {sp : Sp} {E : XK} {tr : TA} (h : tr σ H fun vs H1 => sp vs H1 Q E) : tCall sp [] E tr σ H Q := by
  have e : (fun vs H1 => sp (vs ++ []) H1 Q E) = fun vs H1 => sp vs H1 Q E := by
    funext vs H1
    rw [List.append_nil]
  show tr σ H fun vs H1 => sp (vs ++ []) H1 Q E
  rw [e]
  exact h
instance i_call {sp : Sp} {E : XK} {tr : TA} : Stp (tCall sp [] E tr σ H Q) (tr σ H fun vs H1 => sp vs H1 Q E) := ⟨r_call⟩
/-- the method m of the instance x of the class at C -/
def MethOn (C : Addr) (m : Str) (x : V) (H : Hp) (G : Prop) : Prop := ∃ a dx fs, x = .ref a ∧ H a = some (.ins C dx fs) ∧ fs.lookup m = none ∧ G
theorem r_meth {C : Addr} {m : Str} {sp : Sp} {E : XK} {tr : TA} (h : ta σ H fun x H1 => MethOn C m x H1 (tr σ H1 fun vs H2 => sp (x :: vs) H2 Q E)) : tMeth C m sp [] E ta tr σ H Q := by
  have e : (fun x H1 => ∃ a dx fs, x = V.ref a ∧ H1 a = some (.ins C dx fs) ∧ fs.lookup m = none ∧ tr σ H1 fun vs H2 => sp (x :: (vs ++ [])) H2 Q E) = fun x H1 => MethOn C m x H1 (tr σ H1 fun vs H2 => sp (x :: vs) H2 Q E) := by
    funext x H1
    unfold MethOn
    simp only [List.append_nil]
  show ta σ H _
  rw [e]
  exact h
instance i_meth {C : Addr} {m : Str} {sp : Sp} {E : XK} {tr : TA} : Stp (tMeth C m sp [] E ta tr σ H Q) (ta σ H fun x H1 => MethOn C m x H1 (tr σ H1 fun vs H2 => sp (x :: vs) H2 Q E)) := ⟨r_meth⟩
theorem r_methOn {C : Addr} {m : Str} {G : Prop} {p dx : Addr} {fs : List (Str × V)} (h : H p = some (.ins C dx fs)) (hl : fs.lookup m = none) (g : G) : MethOn C m (.ref p) H G := ⟨p, dx, fs, rfl, h, hl, g⟩
/-- the field f of x -/
def FldOn (K : PySem.W.Frag) (f : Str) (x : V) (H : Hp) (Q : VK) : Prop := ∃ a C dx fs v, x = .ref a ∧ H a = some (.ins C dx fs) ∧ Cls K C ∧ NoAttr K C f ∧ fs.lookup f = some v ∧ Q v H
theorem r_fld {f : Str} (h : ta σ H fun x H1 => FldOn K f x H1 Q) : tFld K ta f σ H Q := h
instance i_fld {f : Str} : Stp (tFld K ta f σ H Q) (ta σ H fun x H1 => FldOn K f x H1 Q) := ⟨r_fld⟩
theorem r_fldOn {f : Str} {p C dx : Addr} {fs : List (Str × V)} (h : H p = some (.ins C dx fs)) (c : Cls K C) (n : NoAttr K C f) (hl : fs.lookup f = some v) (q : Q v H) : FldOn K f (.ref p) H Q := ⟨p, C, dx, fs, v, rfl, h, c, n, hl, q⟩
theorem r_cb {r : List V → Hp → VK → Prop} {tr : TA} (h : tr σ H fun vs H1 => r vs H1 Q) : tCB r tr σ H Q := h
instance i_cb {r : List V → Hp → VK → Prop} {tr : TA} : Stp (tCB r tr σ H Q) (tr σ H fun vs H1 => r vs H1 Q) := ⟨r_cb⟩
theorem r_chain {r r' : R2} {tk : TE} (h : ta σ H fun x H1 => tb σ H1 fun y H2 => r x y H2 fun z H3 => ∃ k, z = .bl k ∧ (if k = true then tk σ H3 fun w' H4 => r' y w' H4 Q else Q (.bl false) H3)) : tChain r r' ta tb tk σ H Q := h
end

/-! ### promises by the number of the arguments -/
def sp1 (f : V → Hp → VK → XK → Prop) : Sp := fun vs H Q E => ∃ x, vs = [x] ∧ f x H Q E
def sp2 (f : V → V → Hp → VK → XK → Prop) : Sp := fun vs H Q E => ∃ x y, vs = [x, y] ∧ f x y H Q E
def sp3 (f : V → V → V → Hp → VK → XK → Prop) : Sp := fun vs H Q E => ∃ x y z, vs = [x, y, z] ∧ f x y z H Q E
def sp4 (f : V → V → V → V → Hp → VK → XK → Prop) : Sp := fun vs H Q E => ∃ x y z u, vs = [x, y, z, u] ∧ f x y z u H Q E
def sp5 (f : V → V → V → V → V → Hp → VK → XK → Prop) : Sp := fun vs H Q E => ∃ x y z u v, vs = [x, y, z, u, v] ∧ f x y z u v H Q E
section
variable {H : Hp} {Q : VK} {E : XK} {x y z u v : V}
theorem r_sp1 {f : V → Hp → VK → XK → Prop} (h : f x H Q E) : sp1 f [x] H Q E := ⟨x, rfl, h⟩
instance i_sp1 {f : V → Hp → VK → XK → Prop} : Stp (sp1 f [x] H Q E) (f x H Q E) := ⟨r_sp1⟩
theorem r_sp2 {f : V → V → Hp → VK → XK → Prop} (h : f x y H Q E) : sp2 f [x, y] H Q E := ⟨x, y, rfl, h⟩
instance i_sp2 {f : V → V → Hp → VK → XK → Prop} : Stp (sp2 f [x, y] H Q E) (f x y H Q E) := ⟨r_sp2⟩
theorem r_sp3 {f : V → V → V → Hp → VK → XK → Prop} (h : f x y z H Q E) : sp3 f [x, y, z] H Q E := ⟨x, y, z, rfl, h⟩
instance i_sp3 {f : V → V → V → Hp → VK → XK → Prop} : Stp (sp3 f [x, y, z] H Q E) (f x y z H Q E) := ⟨r_sp3⟩
theorem r_sp4 {f : V → V → V → V → Hp → VK → XK → Prop} (h : f x y z u H Q E) : sp4 f [x, y, z, u] H Q E := ⟨x, y, z, u, rfl, h⟩
instance i_sp4 {f : V → V → V → V → Hp → VK → XK → Prop} : Stp (sp4 f [x, y, z, u] H Q E) (f x y z u H Q E) := ⟨r_sp4⟩
theorem r_sp5 {f : V → V → V → V → V → Hp → VK → XK → Prop} (h : f x y z u v H Q E) : sp5 f [x, y, z, u, v] H Q E := ⟨x, y, z, u, v, rfl, h⟩
instance i_sp5 {f : V → V → V → V → V → Hp → VK → XK → Prop} : Stp (sp5 f [x, y, z, u, v] H Q E) (f x y z u v H Q E) := ⟨r_sp5⟩
end

/-! ### what a step leaves as it was: all but the objects in S; tuples; what was tracked stays tracked -/
structure Fr (S : Addr → Prop) (H H' : Hp) : Prop where
  old : ∀ b o, H b = some o → ¬ S b → H' b = some o
  tup : ∀ b xs, H b = some (.tup xs) → H' b = some (.tup xs)
  thr : ∀ b, H' b = none → H b = none
abbrev No : Addr → Prop := fun _ => False
section
variable {S S' : Addr → Prop} {H H' H1 H2 : Hp} {p : Addr} {o u : HO} {xs : List V}
theorem Fr.refl : Fr S H H := ⟨fun _ _ h _ => h, fun _ _ h => h, fun _ h => h⟩
theorem Fr.trans (a : Fr S H H1) (b : Fr S H1 H2) : Fr S H H2 := ⟨fun c o h n => b.old c o (a.old c o h n) n, fun c xs h => b.tup c xs (a.tup c xs h), fun c h => a.thr c (b.thr c h)⟩
theorem Fr.mono (a : Fr S H H1) (h : ∀ b, S b → S' b) : Fr S' H H1 := ⟨fun c o e n => a.old c o e fun z => n (h c z), a.tup, a.thr⟩
theorem Fr.up (a : Fr No H H1) : Fr S H H1 := a.mono fun _ z => z.elim
theorem Fr.new (h : H p = none) : Fr No H (upd H p o) := ⟨fun b u e _ => by rw [upd_ne (ne_of_none e h)]; exact e, fun b xs e => by rw [upd_ne (ne_of_none e h)]; exact e, fun b e => by
  by_cases z : b = p
  · rw [z, upd_same] at e
    cases e
  · rw [upd_ne z] at e
    exact e⟩
theorem Fr.put (h : H p = some o) (nt : ∀ xs, o ≠ .tup xs) : Fr (fun b => b = p) H (upd H p u) := ⟨fun b v e n => by rw [upd_ne n]; exact e, fun b xs e => by
    have n : b ≠ p := fun z => by
      rw [z, h] at e
      exact nt xs (Option.some.inj e)
    rw [upd_ne n]
    exact e, fun b e => by
  by_cases z : b = p
  · rw [z, upd_same] at e
    cases e
  · rw [upd_ne z] at e
    exact e⟩
theorem Fr.lst (a : Fr No H H1) (h : H p = some o) : H1 p = some o := a.old p o h fun z => z
theorem Fr.fresh (a : Fr S H H1) (h : H1 p = none) : H p = none := a.thr p h
theorem ne_fresh (h : H p = some o) {q : Addr} (h' : H q = none) : q ≠ p := fun z => by
  rw [z, h] at h'
  cases h'
end

/-! ### new lists, new tuples -/
section
variable {K : PySem.W.Frag} {σ : L2.St} {H : Hp} {Q : VK} {xs : List V} {tr : TA}
theorem r_new {o : HO} (h : ∀ p H', H p = none → H' p = some o → Fr No H H' → Q (.ref p) H') : ∀ p, H p = none → Q (.ref p) (upd H p o) := fun p hp => h p _ hp upd_same (Fr.new hp)
def NewL (xs : List V) (H : Hp) (Q : VK) : Prop := xs.length ≤ sizeLine ∧ ∀ p, H p = none → Q (.ref p) (upd H p (.lst xs))
def NewT (xs : List V) (H : Hp) (Q : VK) : Prop := xs.length ≤ sizeLine ∧ ∀ p, H p = none → Q (.ref p) (upd H p (.tup xs))
theorem r_lst (h : tr σ H fun xs H1 => NewL xs H1 Q) : tLst tr σ H Q := h
instance i_lst  : Stp (tLst tr σ H Q) (tr σ H fun xs H1 => NewL xs H1 Q) := ⟨r_lst⟩
theorem r_tup (h : tr σ H fun xs H1 => NewT xs H1 Q) : tTup tr σ H Q := h
instance i_tup  : Stp (tTup tr σ H Q) (tr σ H fun xs H1 => NewT xs H1 Q) := ⟨r_tup⟩
theorem r_newL (hl : xs.length ≤ 2000) (h : ∀ p H', H p = none → H' p = some (.lst xs) → Fr No H H' → Q (.ref p) H') : NewL xs H Q := ⟨Nat.le_of_lt (small2000 hl), r_new h⟩
theorem r_newT (hl : xs.length ≤ 2000) (h : ∀ p H', H p = none → H' p = some (.tup xs) → Fr No H H' → Q (.ref p) H') : NewT xs H Q := ⟨Nat.le_of_lt (small2000 hl), r_new h⟩
end


/-! ### data of tuples, ints, texts: it stays -/
mutual
inductive Td (H : Hp) : V → PyData → Prop
  | non : Td H .non .none
  | bl (b : Bool) : Td H (.bl b) (.bool b)
  | int (i : Int) : Td H (.int i) (.int i)
  | str (x : Str) : Td H (.str x) (.str x)
  | tup {a : Addr} {xs : List V} {ds : List PyData} : H a = some (.tup xs) → TdAll H xs ds → Td H (.ref a) (.tuple ds)
inductive TdAll (H : Hp) : List V → List PyData → Prop
  | nil : TdAll H [] []
  | cons {v : V} {vs : List V} {d : PyData} {ds : List PyData} : Td H v d → TdAll H vs ds → TdAll H (v :: vs) (d :: ds)
end
mutual
theorem Td.fr {S : Addr → Prop} {H H' : Hp} (f : Fr S H H') : ∀ {v : V} {d : PyData}, Td H v d → Td H' v d
  | _, _, .non => .non
  | _, _, .bl b => .bl b
  | _, _, .int i => .int i
  | _, _, .str x => .str x
  | _, _, .tup h r => .tup (f.tup _ _ h) (TdAll.fr f r)
theorem TdAll.fr {S : Addr → Prop} {H H' : Hp} (f : Fr S H H') : ∀ {vs : List V} {ds : List PyData}, TdAll H vs ds → TdAll H' vs ds
  | _, _, .nil => .nil
  | _, _, .cons h r => .cons (Td.fr f h) (TdAll.fr f r)
end
mutual
theorem Td.dp {K : PySem.W.Frag} {H : Hp} : ∀ {v : V} {d : PyData}, Td H v d → Dp K H v d
  | _, _, .non => .non
  | _, _, .bl b => .bl b
  | _, _, .int i => .int i
  | _, _, .str x => .str x
  | _, _, .tup h r => .tup (SqT.of h) (TdAll.dp r)
theorem TdAll.dp {K : PySem.W.Frag} {H : Hp} : ∀ {vs : List V} {ds : List PyData}, TdAll H vs ds → DpAll K H vs ds
  | _, _, .nil => .nil
  | _, _, .cons h r => .cons (Td.dp h) (TdAll.dp r)
end
theorem TdAll.len {H : Hp} : ∀ {vs : List V} {ds : List PyData}, TdAll H vs ds → vs.length = ds.length
  | _, _, .nil => rfl
  | _, _, .cons _ r => by simp [TdAll.len r]
theorem TdAll.app {H : Hp} : ∀ {vs ws : List V} {ds es : List PyData}, TdAll H vs ds → TdAll H ws es → TdAll H (vs ++ ws) (ds ++ es)
  | _, _, _, _, .nil, s => s
  | _, _, _, _, .cons h r, s => .cons h (TdAll.app r s)
theorem TdAll.one {H : Hp} {v : V} {d : PyData} (h : Td H v d) : TdAll H [v] [d] := .cons h .nil
theorem TdAll.at {H : Hp} : ∀ {vs : List V} {ds : List PyData} {i : Nat} {d : PyData}, TdAll H vs ds → ds[i]? = some d → ∃ v, vs[i]? = some v ∧ Td H v d
  | _, _, _, _, .nil, e => by simp at e
  | _, _, 0, _, .cons h _, e => by
    have e' := Option.some.inj (show some _ = some _ from e)
    subst e'
    exact ⟨_, rfl, h⟩
  | _, _, i + 1, _, .cons _ r, e => TdAll.at (i := i) r (by simpa using e)
/-- a list of such data at p -/
def LsAt (H : Hp) (p : Addr) (ds : List PyData) : Prop := ∃ vs, H p = some (.lst vs) ∧ TdAll H vs ds
theorem LsAt.dp {K : PySem.W.Frag} {H : Hp} {p : Addr} {ds : List PyData} (h : LsAt H p ds) : Dp K H (.ref p) (.list ds) := by
  obtain ⟨vs, h1, h2⟩ := h
  exact .lst (SqL.of h1) h2.dp
theorem LsAt.fr {S : Addr → Prop} {H H' : Hp} {p : Addr} {ds : List PyData} (h : LsAt H p ds) (f : Fr S H H') (n : ¬ S p) : LsAt H' p ds := by
  obtain ⟨vs, h1, h2⟩ := h
  exact ⟨vs, f.old _ _ h1 n, h2.fr f⟩
/-! ### data that may be compared -/
def Cmp (d : PyData) : Prop := d.canLay0 = true ∧ d.depth ≤ 60
def CmpAll (ds : List PyData) : Prop := PyData.canLayAll0 ds = true ∧ PyData.depthAll ds ≤ 59
theorem Cmp.shaped {d : PyData} (h : Cmp d) : SeqAt.shaped d = true := by
  unfold SeqAt.shaped
  rw [h.1, Bool.true_and]
  exact decide_eq_true (Nat.le_trans h.2 (by decide))
theorem CmpAll.shaped {ds : List PyData} (h : CmpAll ds) : SeqAt.shaped (.list ds) = true := by
  unfold SeqAt.shaped
  have e : PyData.canLay0 (.list ds) = true := by simp only [PyData.canLay0]; exact h.1
  rw [e, Bool.true_and]
  refine decide_eq_true ?_
  simp only [PyData.depth]
  have := h.2
  omega
theorem CmpAll.nil : CmpAll [] := ⟨by simp [PyData.canLayAll0], by simp [PyData.depthAll]⟩
theorem CmpAll.cons {d : PyData} {ds : List PyData} (h : d.canLay0 = true ∧ d.depth ≤ 59) (r : CmpAll ds) : CmpAll (d :: ds) := ⟨by simp only [PyData.canLayAll0, h.1, r.1, Bool.and_self], by
  simp only [PyData.depthAll]
  have h1 := h.2
  have h2 := r.2
  omega⟩
theorem CmpAll.of {ds : List PyData} (h : ∀ d ∈ ds, d.canLay0 = true ∧ d.depth ≤ 59) : CmpAll ds := by
  induction ds with
  | nil => exact .nil
  | cons d r ih => exact .cons (h d List.mem_cons_self) (ih fun e he => h e (List.mem_cons_of_mem _ he))
theorem eqv_nil (ds : List PyData) : PyData.eqv (.list ds) (.list []) = decide (ds = []) := by
  cases ds with
  | nil => simp [PyData.eqv, PyData.eqvAll]
  | cons d r => simp [PyData.eqv, PyData.eqvAll]
section
variable {K : PySem.W.Frag} {σ : L2.St} {H : Hp} {Q : VK} {D : Ends} {v : V} {te ta tb to : TE} {tr : TA} {QH : Hp → Prop}
theorem r_asg {g : TG} (h : te σ H fun v H1 => g v σ H1 D.nx) : tAsg te g D σ H := h
instance i_asg {g : TG} : Stp (tAsg te g D σ H) (te σ H fun v H1 => g v σ H1 D.nx) := ⟨r_asg⟩
theorem r_gsub {s : TSet} {QS : L2.St → Hp → Prop} (h : ta σ H fun o H1 => tb σ H1 fun i H2 => s o i v H2 fun H3 => QS σ H3) : gSub ta tb s v σ H QS := h
instance i_gsub {s : TSet} {QS : L2.St → Hp → Prop} : Stp (gSub ta tb s v σ H QS) (ta σ H fun o H1 => tb σ H1 fun i H2 => s o i v H2 fun H3 => QS σ H3) := ⟨r_gsub⟩
theorem r_gname {i : Nat} {QS : L2.St → Hp → Prop} (h : QS (σ.set i (some v)) H) : gName i v σ H QS := h
instance i_gname {i : Nat} {QS : L2.St → Hp → Prop} : Stp (gName i v σ H QS) (QS (σ.set i (some v)) H) := ⟨r_gname⟩
theorem r_bm {T : String} {r : V → List V → Hp → VK → Prop} (h : to σ H fun x H1 => tyV K T x H1 ∧ tr σ H1 fun xs H2 => r x xs H2 Q) : tBM K T r to tr σ H Q := h
instance i_bm {T : String} {r : V → List V → Hp → VK → Prop} : Stp (tBM K T r to tr σ H Q) (to σ H fun x H1 => tyV K T x H1 ∧ tr σ H1 fun xs H2 => r x xs H2 Q) := ⟨r_bm⟩
theorem r_bm0 {T : String} {r : V → List V → Hp → VK → Prop} (h : to σ H fun x H1 => tyV K T x H1 ∧ r x [] H1 Q) : tBM0 K T r to σ H Q := h
instance i_bm0 {T : String} {r : V → List V → Hp → VK → Prop} : Stp (tBM0 K T r to σ H Q) (to σ H fun x H1 => tyV K T x H1 ∧ r x [] H1 Q) := ⟨r_bm0⟩
theorem r_tyL {a : Addr} {xs : List V} {G : Prop} (h : H a = some (.lst xs)) (g : G) : tyV K "list" (.ref a) H ∧ G := ⟨.inl ⟨rfl, _, SqL.of h⟩, g⟩
theorem r_eqNil {a p : Addr} {ds : List PyData} (h : Dp K H (.ref a) (.list ds)) (hc : CmpAll ds) (hp : H p = some (.lst [])) (q : Q (.bl (decide (ds = []))) H) : rEqD K (.ref a) (.ref p) H Q :=
  ⟨_, _, h, .lst (SqL.of hp) .nil, hc.shaped, CmpAll.nil.shaped, by rw [eqv_nil]; exact q⟩
theorem r_neNil {a p : Addr} {ds : List PyData} (h : Dp K H (.ref a) (.list ds)) (hc : CmpAll ds) (hp : H p = some (.lst [])) (q : Q (.bl (!decide (ds = []))) H) : rNeD K (.ref a) (.ref p) H Q :=
  ⟨_, _, h, .lst (SqL.of hp) .nil, hc.shaped, CmpAll.nil.shaped, by rw [eqv_nil]; exact q⟩
theorem seqIx0 {n : Nat} (h : 0 < n) : seqIndex? 0 n = some 0 := by
  unfold seqIndex?
  simp [h]
theorem seqIxN {n i : Nat} (h : i < n) : seqIndex? (i : Int) n = some i := by
  unfold seqIndex?
  have h1 : ¬ ((i : Int) < 0) := by omega
  simp only [h1, if_false]
  rw [if_pos (by simp; omega)]
  simp
theorem r_popAt {a : Addr} {xs : List V} {i : Nat} {y : V} (h : H a = some (.lst xs)) (hi : xs[i]? = some y) (hs : i < 100000) (q : Q y (upd H a (.lst (xs.eraseIdx i)))) : rPopAt (.ref a) [.int (i : Int)] H Q :=
  ⟨a, xs, _, i, y, rfl, rfl, h, by omega, by omega, seqIxN (List.getElem?_eq_some_iff.mp hi).1, hi, q⟩
theorem r_append {a : Addr} {xs : List V} {y : V} (h : H a = some (.lst xs)) (hs : xs.length ≤ 2000) (q : Q .non (upd H a (.lst (xs ++ [y])))) : rAppend (.ref a) [y] H Q := ⟨a, xs, y, rfl, rfl, h, small2000 hs, q⟩
end
theorem int_td (H : Hp) : ∀ ns : List Int, TdAll H (ns.map V.int) (ns.map PyData.int)
  | [] => .nil
  | n :: r => .cons (.int n) (int_td H r)

theorem r_listOf {K : PySem.W.Frag} {H : Hp} {Q : VK} {a : Addr} {xs : List V} (h : H a = some (.lst xs)) (q : ∀ p H', H p = none → H' p = some (.lst xs) → Fr No H H' → Q (.ref p) H') : rListQ K [.ref a] H Q := ⟨a, xs, rfl, .inl (SqL.of h), fun p hp => q p _ hp upd_same (Fr.new hp)⟩

/-! ### comprehensions -/
theorem Fr.mut {H H' : Hp} {D : Addr} {u : HO} (f : Fr No H H') (h : H D = none) : Fr No H (upd H' D u) := ⟨fun b o e n => by rw [upd_ne (ne_of_none e h)]; exact f.old b o e n, fun b xs e => by rw [upd_ne (ne_of_none e h)]; exact f.tup b xs e, fun b e => by
  by_cases z : b = D
  · rw [z]
    exact h
  · rw [upd_ne z] at e
    exact f.thr b e⟩
theorem Fr.mut_at {S : Addr → Prop} {H H' : Hp} {D : Addr} {u : HO} (f : Fr S H H') (h : H D = none) : Fr S H (upd H' D u) := ⟨fun b o e n => by rw [upd_ne (ne_of_none e h)]; exact f.old b o e n, fun b xs e => by rw [upd_ne (ne_of_none e h)]; exact f.tup b xs e, fun b e => by
  by_cases z : b = D
  · rw [z]
    exact h
  · rw [upd_ne z] at e
    exact f.thr b e⟩
theorem Td.int_of {H : Hp} {v : V} {i : Int} (h : Td H v (.int i)) : v = .int i := by cases h; rfl
theorem Td.non_of {H : Hp} {v : V} (h : Td H v .none) : v = .non := by cases h; rfl
theorem TdAll.ints_of {H : Hp} : ∀ {vs : List V} {ns : List Int}, TdAll H vs (ns.map PyData.int) → vs = ns.map V.int
  | _, [], h => by cases h; rfl
  | _, n :: r, h => by
    cases h with
    | cons h1 h2 => rw [Td.int_of h1, TdAll.ints_of h2]; rfl
theorem LsAt.ints {H : Hp} {p : Addr} {ns : List Int} (h : LsAt H p (ns.map PyData.int)) : H p = some (.lst (ns.map V.int)) := by
  obtain ⟨vs, h1, h2⟩ := h
  rw [h1, h2.ints_of]
section
variable {K : PySem.W.Frag} {σ : L2.St} {H : Hp} {Q : VK} {ta : TA} {tt : TT} {te tl : TE} {vs : List Nat} {j : Nat} {n : Nat}
/-- what is made so far -/
structure LcW (H : Hp) (D : Addr) (ds : List PyData) (H' : Hp) : Prop where
  new : H D = none
  fr : Fr No H H'
  ls : LsAt H' D ds
/-- an element that may lay new things, and its datum -/
def Gives (te : TE) (σ : L2.St) (H' : Hp) (d : PyData) : Prop := ∀ Q : VK, (∀ v H2, Fr No H' H2 → Td H2 v d → Q v H2) → te σ H' Q
def Tells (tt : TT) (σ : L2.St) (H' : Hp) (b : Bool) : Prop := ∀ Q : Bool → Hp → Prop, (∀ H2, Fr No H' H2 → Q b H2) → tt σ H' Q
theorem tells_yes {H' : Hp} {σ : L2.St} : Tells tYes σ H' true := fun Q q => q H' Fr.refl
theorem lc_turn {H1 H' : Hp} {D : Addr} {σ2 : L2.St} {ds : List PyData} {b : Bool} {d : PyData} (N : Hp → Prop) (w : LcW H1 D ds H') (hl : ds.length < 2000) (ht : Tells tt σ2 H' b) (he : b = true → ∀ H2, Fr No H1 H2 → Gives te σ2 H2 d)
    (h1 : b = true → ∀ H2, LcW H1 D (ds ++ [d]) H2 → N H2) (h0 : b = false → ∀ H2, LcW H1 D ds H2 → N H2) :
    tt σ2 H' fun b H3 => if b = true then te σ2 H3 fun y H4 => ∃ acc, H4 D = some (.lst acc) ∧ acc.length < sizeLine ∧ N (upd H4 D (.lst (acc ++ [y]))) else N H3 := by
  obtain ⟨w1, w2, vs, w3, w4⟩ := w
  refine ht _ fun H3 f3 => ?_
  cases b with
  | true =>
    refine r_T (he rfl H3 (w2.trans f3) _ fun v H4 f4 hv => ⟨vs, (f3.trans f4).lst w3, ?_, h1 rfl _ ⟨w1, Fr.mut ((w2.trans f3).trans f4) w1, vs ++ [v], upd_same, ?_⟩⟩)
    · rw [w4.len]
      exact small2000 (Nat.le_of_lt hl)
    · have f5 : Fr (fun b => b = D) H4 (upd H4 D (.lst (vs ++ [v]))) := Fr.put ((f3.trans f4).lst w3) (fun xs z => by cases z)
      exact ((w4.fr (f3.trans f4)).app (TdAll.one hv)).fr f5
  | false => exact r_F (h0 rfl _ ⟨w1, w2.trans f3, vs, f3.lst w3, w4.fr f3⟩)
/-- the data of the turns below n -/
def turns (f : Nat → Bool) (d : Nat → PyData) (n : Nat) : List PyData := ((List.range n).filter f).map d
theorem turns_succ (f : Nat → Bool) (d : Nat → PyData) (n : Nat) : turns f d (n + 1) = turns f d n ++ (if f n = true then [d n] else []) := by
  unfold turns
  rw [List.range_succ, List.filter_append, List.map_append]
  by_cases h : f n = true
  · simp [h]
  · simp [h]
theorem turns_len (f : Nat → Bool) (d : Nat → PyData) (n : Nat) : (turns f d n).length ≤ n := by
  unfold turns
  rw [List.length_map]
  have h := List.length_filter_le f (List.range n)
  rw [List.length_range] at h
  exact h
theorem r_lcR (f : Nat → Bool) (d : Nat → PyData) (hn : n ≤ 2000) (ha : ∀ Q : List V → Hp → Prop, Q [.int (n : Int)] H → ta σ H Q) (hw : ∀ x, wipe ((wipe σ vs).set j (some x)) vs = wipe σ vs)
    (ht : ∀ (i : Nat) H', i < n → Fr No H H' → Tells tt ((wipe σ vs).set j (some (.int (i : Int)))) H' (f i)) (he : ∀ (i : Nat) H', i < n → f i = true → Fr No H H' → Gives te ((wipe σ vs).set j (some (.int (i : Int)))) H' (d i))
    (q : ∀ p H', H p = none → LsAt H' p (turns f d n) → Fr No H H' → Q (.ref p) H') : tLc (iRng1 ta) (gName j) tt te vs σ H Q := by
  refine ha _ ⟨(n : Int), rfl, by omega, by omega, fun D hD => ?_⟩
  have en : ((n : Int)).toNat = n := by omega
  rw [en]
  refine lc_range (lo := 0) (n := n) (fun i H' => LcW H D (turns f d i) H') ⟨hD, Fr.new hD, [], upd_same, .nil⟩ (fun i H' hi w => ?_) (fun H' w => q D H' hD w.ls w.fr)
  have e0 : (0 : Int) + (i : Int) = (i : Int) := Int.zero_add _
  rw [e0]
  refine ⟨hw _, ?_⟩
  exact lc_turn (d := d i) _ w (by have := turns_len f d i; omega) (ht i H' hi w.fr) (fun hf H2 f2 => he i H2 hi hf f2) (fun hf H2 w2 => by rw [turns_succ, if_pos hf]; exact w2) (fun hf H2 w2 => by
    have nf : ¬ f i = true := by rw [hf]; exact Bool.false_ne_true
    rw [turns_succ, if_neg nf, List.append_nil]
    exact w2)
theorem r_lcL0 {wi : TI} {g : TG} (h : wi σ H fun J H1 => ∀ D, H1 D = none → ∃ W : Nat → Nat → Hp → Prop, (∃ m, W 0 m (upd H1 D (.lst []))) ∧ ∀ i m H, W i m H →
  (J.stop i H ∧ Q (.ref D) H) ∨ (J.go i H ∧ ∃ Nx : Hp → Prop, (∀ H', Nx H' → ∃ m', m' < m ∧ W (i + 1) m' H') ∧ ∀ x H', J.yld i H x H' → g x (wipe σ vs) H' fun σ2 H2 => wipe σ2 vs = wipe σ vs ∧ tt σ2 H2 fun b H3 =>
    if b = true then te σ2 H3 fun y H4 => ∃ acc, H4 D = some (.lst acc) ∧ acc.length < sizeLine ∧ Nx (upd H4 D (.lst (acc ++ [y]))) else Nx H3)) : tLc wi g tt te vs σ H Q := h
theorem r_yes {QB : Bool → Hp → Prop} (h : QB true H) : tYes σ H QB := h
instance i_yes {QB : Bool → Hp → Prop} : Stp (tYes σ H QB) (QB true H) := ⟨r_yes⟩
theorem r_listI {R : It → Hp → Prop} (h : tl σ H fun x H1 => ∃ a, x = .ref a ∧ (∃ xs, SqL K H1 a xs) ∧ R (Itl K a) H1) : iList K tl σ H R := h
instance i_listI {R : It → Hp → Prop} : Stp (iList K tl σ H R) (tl σ H fun x H1 => ∃ a, x = .ref a ∧ (∃ xs, SqL K H1 a xs) ∧ R (Itl K a) H1) := ⟨r_listI⟩
/-- over a list -/
theorem r_lcL {a : Addr} {xs : List V} (f : Nat → Bool) (d : Nat → PyData) (hn : xs.length ≤ 2000) (ha : ∀ Q : VK, Q (.ref a) H → tl σ H Q) (hx : H a = some (.lst xs)) (hw : ∀ x, wipe ((wipe σ vs).set j (some x)) vs = wipe σ vs)
    (ht : ∀ (i : Nat) x H', xs[i]? = some x → Fr No H H' → Tells tt ((wipe σ vs).set j (some x)) H' (f i)) (he : ∀ (i : Nat) x H', xs[i]? = some x → f i = true → Fr No H H' → Gives te ((wipe σ vs).set j (some x)) H' (d i))
    (q : ∀ p H', H p = none → LsAt H' p (turns f d xs.length) → Fr No H H' → Q (.ref p) H') : tLc (iList K tl) (gName j) tt te vs σ H Q := by
  refine ha _ ⟨a, rfl, ⟨xs, SqL.of hx⟩, fun D hD => ?_⟩
  refine lc_list (K := K) (a := a) (xs := xs) (fun i H' => LcW H D (turns f d i) H') ⟨hD, Fr.new hD, [], upd_same, .nil⟩ (fun i H' hi w => SqL.of (w.fr.lst hx)) (fun i x H' hi w => ?_) (fun H' w => q D H' hD w.ls w.fr)
  have hl : i < xs.length := (List.getElem?_eq_some_iff.mp hi).1
  refine ⟨hw _, ?_⟩
  exact lc_turn (d := d i) _ w (by have := turns_len f d i; omega) (ht i x H' hi w.fr) (fun hf H2 f2 => he i x H2 hi hf f2) (fun hf H2 w2 => by rw [turns_succ, if_pos hf]; exact w2) (fun hf H2 w2 => by
    have nf : ¬ f i = true := by rw [hf]; exact Bool.false_ne_true
    rw [turns_succ, if_neg nf, List.append_nil]
    exact w2)
/-- over a tuple -/
theorem r_lcT {a : Addr} {xs : List V} (f : Nat → Bool) (d : Nat → PyData) (hn : xs.length ≤ 2000) (ha : ∀ Q : VK, Q (.ref a) H → tl σ H Q) (hx : H a = some (.tup xs)) (hw : ∀ x, wipe ((wipe σ vs).set j (some x)) vs = wipe σ vs)
    (ht : ∀ (i : Nat) x H', xs[i]? = some x → Fr No H H' → Tells tt ((wipe σ vs).set j (some x)) H' (f i)) (he : ∀ (i : Nat) x H', xs[i]? = some x → f i = true → Fr No H H' → Gives te ((wipe σ vs).set j (some x)) H' (d i))
    (q : ∀ p H', H p = none → LsAt H' p (turns f d xs.length) → Fr No H H' → Q (.ref p) H') : tLc (iTup K tl) (gName j) tt te vs σ H Q := by
  refine ha _ ⟨a, rfl, ⟨xs, SqT.of hx⟩, fun D hD => ?_⟩
  refine lc_tup (K := K) (a := a) (xs := xs) (fun i H' => LcW H D (turns f d i) H') ⟨hD, Fr.new hD, [], upd_same, .nil⟩ (fun i H' hi w => SqT.of (w.fr.tup _ _ hx)) (fun i x H' hi w => ?_) (fun H' w => q D H' hD w.ls w.fr)
  have hl : i < xs.length := (List.getElem?_eq_some_iff.mp hi).1
  refine ⟨hw _, ?_⟩
  exact lc_turn (d := d i) _ w (by have := turns_len f d i; omega) (ht i x H' hi w.fr) (fun hf H2 f2 => he i x H2 hi hf f2) (fun hf H2 w2 => by rw [turns_succ, if_pos hf]; exact w2) (fun hf H2 w2 => by
    have nf : ¬ f i = true := by rw [hf]; exact Bool.false_ne_true
    rw [turns_succ, if_neg nf, List.append_nil]
    exact w2)
/-- an element that is a new list -/
def Makes (te : TE) (σ : L2.St) (H' : Hp) (c : List V) : Prop := ∀ Q : VK, (∀ a H2, H' a = none → H2 a = some (.lst c) → Fr No H' H2 → Q (.ref a) H2) → te σ H' Q
structure LmW (H : Hp) (D : Addr) (c : Nat → List V) (ls : List Addr) (H' : Hp) : Prop where
  new : H D = none
  fr : Fr No H H'
  at_ : H' D = some (.lst (ls.map V.ref))
  nd : (D :: ls).Nodup
  each : ∀ k a, ls[k]? = some a → H' a = some (.lst (c k)) ∧ H a = none
theorem lm_turn {H1 H' : Hp} {D : Addr} {σ2 : L2.St} {ls : List Addr} {c : Nat → List V} (N : Hp → Prop) (w : LmW H1 D c ls H') (hl : ls.length < 2000) (he : ∀ H2, Fr No H1 H2 → Makes te σ2 H2 (c ls.length))
    (h1 : ∀ ls' H2, ls'.length = ls.length + 1 → LmW H1 D c ls' H2 → N H2) :
    tYes σ2 H' fun b H3 => if b = true then te σ2 H3 fun y H4 => ∃ acc, H4 D = some (.lst acc) ∧ acc.length < sizeLine ∧ N (upd H4 D (.lst (acc ++ [y]))) else N H3 := by
  obtain ⟨w1, w2, w3, w4, w5⟩ := w
  unfold tYes
  dsimp only
  rw [if_pos rfl]
  refine he H' w2 _ fun a H4 ha e f => ⟨ls.map V.ref, f.lst w3, by rw [List.length_map]; exact small2000 (Nat.le_of_lt hl), h1 (ls ++ [a]) _ (by simp) ?_⟩
  have nD : a ≠ D := ne_fresh w3 ha
  refine ⟨w1, Fr.mut (w2.trans f) w1, ?_, ?_, fun k b eb => ?_⟩
  · rw [upd_same, List.map_append]
    rfl
  · have e2 : D :: (ls ++ [a]) = (D :: ls) ++ [a] := rfl
    rw [e2, List.nodup_append]
    refine ⟨w4, by simp, fun x hx y hy => ?_⟩
    have ey : y = a := by simpa using hy
    rw [ey]
    intro z
    rcases List.mem_cons.mp hx with q | q
    · exact nD (z.symm.trans q)
    · obtain ⟨k, hk, ek⟩ := List.mem_iff_getElem.mp q
      have := (w5 k x (by rw [List.getElem?_eq_getElem hk, ek])).1
      rw [z, ha] at this
      cases this
  · by_cases hk : k < ls.length
    · rw [List.getElem?_append_left hk] at eb
      obtain ⟨q1, q2⟩ := w5 k b eb
      have nb : b ≠ D := fun z => by
        rw [List.nodup_cons] at w4
        exact w4.1 (z ▸ List.mem_of_getElem? eb)
      exact ⟨(upd_ne nb).trans (f.lst q1), q2⟩
    · have hk2 : k = ls.length := by
        have := (List.getElem?_eq_some_iff.mp eb).1
        rw [List.length_append, List.length_singleton] at this
        omega
      subst hk2
      rw [List.getElem?_append_right (Nat.le_refl _), Nat.sub_self] at eb
      have ea : a = b := Option.some.inj eb
      rw [← ea]
      exact ⟨(upd_ne nD).trans e, w2.fresh ha⟩
theorem r_lcMR (c : Nat → List V) (hn : n ≤ 2000) (ha : ∀ Q : List V → Hp → Prop, Q [.int (n : Int)] H → ta σ H Q) (hw : ∀ x, wipe ((wipe σ vs).set j (some x)) vs = wipe σ vs)
    (he : ∀ (i : Nat) H', i < n → Fr No H H' → Makes te ((wipe σ vs).set j (some (.int (i : Int)))) H' (c i))
    (q : ∀ p ls H', H p = none → ls.length = n → LmW H p c ls H' → Q (.ref p) H') : tLc (iRng1 ta) (gName j) tYes te vs σ H Q := by
  refine ha _ ⟨(n : Int), rfl, by omega, by omega, fun D hD => ?_⟩
  have en : ((n : Int)).toNat = n := by omega
  rw [en]
  refine lc_range (lo := 0) (n := n) (fun i H' => ∃ ls, ls.length = i ∧ LmW H D c ls H') ⟨[], rfl, hD, Fr.new hD, upd_same, by simp, fun k a e => by simp at e⟩ (fun i H' hi ⟨ls, el, w⟩ => ?_) (fun H' ⟨ls, el, w⟩ => q D ls H' hD el w)
  have e0 : (0 : Int) + (i : Int) = (i : Int) := Int.zero_add _
  rw [e0]
  refine ⟨hw _, ?_⟩
  exact lm_turn _ w (by omega) (fun H2 f2 => by rw [el]; exact he i H2 hi f2) (fun ls' H2 el' w' => ⟨ls', by omega, w'⟩)
theorem r_lcML {a : Addr} {xs : List V} (c : Nat → List V) (hn : xs.length ≤ 2000) (ha : ∀ Q : VK, Q (.ref a) H → tl σ H Q) (hx : H a = some (.lst xs)) (hw : ∀ x, wipe ((wipe σ vs).set j (some x)) vs = wipe σ vs)
    (he : ∀ (i : Nat) x H', xs[i]? = some x → Fr No H H' → Makes te ((wipe σ vs).set j (some x)) H' (c i))
    (q : ∀ p ls H', H p = none → ls.length = xs.length → LmW H p c ls H' → Q (.ref p) H') : tLc (iList K tl) (gName j) tYes te vs σ H Q := by
  refine ha _ ⟨a, rfl, ⟨xs, SqL.of hx⟩, fun D hD => ?_⟩
  refine lc_list (K := K) (a := a) (xs := xs) (fun i H' => ∃ ls, ls.length = i ∧ LmW H D c ls H') ⟨[], rfl, hD, Fr.new hD, upd_same, by simp, fun k a e => by simp at e⟩ (fun i H' hi ⟨ls, el, w⟩ => SqL.of (w.fr.lst hx)) (fun i x H' hi ⟨ls, el, w⟩ => ?_) (fun H' ⟨ls, el, w⟩ => q D ls H' hD el w)
  have hl : i < xs.length := (List.getElem?_eq_some_iff.mp hi).1
  refine ⟨hw _, ?_⟩
  exact lm_turn _ w (by omega) (fun H2 f2 => by rw [el]; exact he i x H2 hi f2) (fun ls' H2 el' w' => ⟨ls', by omega, w'⟩)
/-! more steps -/
theorem r_between {σ : L2.St} {lo a n : Int} {tb tk : TE} {Q : VK} (hb : ∀ Q : VK, Q (.int a) H → tb σ H Q) (hk : ∀ Q : VK, Q (.int n) H → tk σ H Q) (q : Q (.bl (decide (lo ≤ a ∧ a ≤ n))) H) : tChain (rI0 fun i j => .bl (decide (i ≤ j))) (rI0 fun i j => .bl (decide (i ≤ j))) (tC (.int lo)) tb tk σ H Q := by
  refine hb _ ⟨lo, a, rfl, rfl, _, rfl, ?_⟩
  by_cases h : lo ≤ a
  · rw [decide_eq_true h, if_pos rfl]
    refine hk _ ⟨a, n, rfl, rfl, ?_⟩
    have e : decide (lo ≤ a ∧ a ≤ n) = decide (a ≤ n) := by simp [h]
    rw [e] at q
    exact q
  · rw [decide_eq_false h, if_neg Bool.false_ne_true]
    have e : decide (lo ≤ a ∧ a ≤ n) = false := by simp [h]
    rw [e] at q
    exact q
def PutOn (K : PySem.W.Frag) (f : Str) (x y : V) (H : Hp) (Q : Hp → Prop) : Prop := ∃ a C dx fs, x = .ref a ∧ H a = some (.ins C dx fs) ∧ Cls K C ∧ NoAttr K C f ∧ fs.length < 1000 ∧ Q (upd H a (.ins C dx (putF f y fs)))
theorem r_sfld {σ : L2.St} {D : Ends} {to tv : TE} {f : Str} (h : tv σ H fun y H1 => to σ H1 fun x H2 => PutOn K f x y H2 (D.nx σ)) : sFld K to tv f D σ H := h
instance i_sfld {σ : L2.St} {D : Ends} {to tv : TE} {f : Str} : Stp (sFld K to tv f D σ H) (tv σ H fun y H1 => to σ H1 fun x H2 => PutOn K f x y H2 (D.nx σ)) := ⟨r_sfld⟩
theorem r_putOn {f : Str} {p C dx : Addr} {y : V} {fs : List (Str × V)} {QH : Hp → Prop} (h : H p = some (.ins C dx fs)) (c : Cls K C) (n : NoAttr K C f) (hl : fs.length < 1000) (q : ∀ H', H' p = some (.ins C dx (putF f y fs)) → Fr (fun b => b = p) H H' → QH H') : PutOn K f (.ref p) y H QH :=
  ⟨p, C, dx, fs, rfl, h, c, n, hl, q _ upd_same (Fr.put h (fun xs z => by cases z))⟩
theorem r_rep {l : Addr} {x : V} {k : Nat} (h : H l = some (.lst [x])) (hk : k ≤ 2000) (q : ∀ p H', H p = none → H' p = some (.lst (List.replicate k x)) → Fr No H H' → Q (.ref p) H') : rRep (.ref l) (.int (k : Int)) H Q := by
  refine ⟨l, (k : Int), [x], rfl, rfl, h, by omega, by omega, ?_, ?_⟩
  · show 1 * _ ≤ sizeLine
    rw [Nat.one_mul]
    exact Nat.le_of_lt (small2000 (by omega))
  · have e : (List.replicate (k : Int).toNat [x]).flatten = List.replicate k x := by
      have ek : ((k : Int)).toNat = k := by omega
      rw [ek]
      clear hk q ek
      induction k with
      | zero => rfl
      | succ m ih => rw [List.replicate_succ, List.flatten_cons, ih, List.replicate_succ]; rfl
    refine r_new (fun p H' hp hp' f => q p H' hp ?_ f)
    rw [hp', e]
end

/-! ### a new instance -/
section
variable {σ : L2.St} {H : Hp} {Q : VK}
def MakeOn (C : Addr) (sp : Sp) (E : XK) (vs : List V) (H1 : Hp) (Q : VK) : Prop := ∀ x dx, H1 x = none → H1 dx = none → dx ≠ x → sp (.ref x :: vs) (upd (upd H1 dx (.own x)) x (.ins C dx [])) (fun v H2 => v = .non ∧ Q (.ref x) H2) E
theorem r_make {C : Addr} {sp : Sp} {E : XK} {tr : TA} (h : tr σ H fun vs H1 => MakeOn C sp E vs H1 Q) : tMake C sp [] E tr σ H Q := by
  have e : (fun vs H1 => ∀ x dx, H1 x = none → H1 dx = none → dx ≠ x → sp (.ref x :: (vs ++ [])) (upd (upd H1 dx (.own x)) x (.ins C dx [])) (fun v H2 => v = .non ∧ Q (.ref x) H2) E) = fun vs H1 => MakeOn C sp E vs H1 Q := by
    funext vs H1
    unfold MakeOn
    simp only [List.append_nil]
  show tr σ H _
  rw [e]
  exact h
instance i_make {C : Addr} {sp : Sp} {E : XK} {tr : TA} : Stp (tMake C sp [] E tr σ H Q) (tr σ H fun vs H1 => MakeOn C sp E vs H1 Q) := ⟨r_make⟩
theorem r_makeOn {C : Addr} {sp : Sp} {E : XK} {vs : List V} (h : ∀ x dx H', H x = none → H' x = some (.ins C dx []) → Fr No H H' → sp (.ref x :: vs) H' (fun v H2 => v = .non ∧ Q (.ref x) H2) E) : MakeOn C sp E vs H Q := fun x dx hx hd ne => by
  refine h x dx _ hx upd_same ?_
  have f1 : Fr No H (upd H dx (.own x)) := Fr.new hd
  exact f1.trans (Fr.new (by rw [upd_ne (fun z => ne z.symm)]; exact hx))
end
end AL

namespace AL
open PySem PySem.Spec PyProof.Rows L2
/-! # tables, as plain data; where a table stands -/
def nV (n : Nat) : V := .int (n : Int)
def oV : Option Nat → V
  | none => .non
  | some n => .int (n : Int)
theorem oV_some (n : Nat) : oV (some n) = .int (n : Int) := rfl
theorem oV_none : oV none = .non := rfl
theorem oV_non (o : Option Nat) : (oV o = .non) ↔ o = none := by
  cases o with
  | none => exact ⟨fun _ => rfl, fun _ => rfl⟩
  | some n => exact ⟨fun z => (nomatch z), fun z => (nomatch z)⟩
theorem oV_int (o : Option Nat) (n : Nat) : (oV o = .int (n : Int)) ↔ o = some n := by
  cases o with
  | none => exact ⟨fun z => (nomatch z), fun z => (nomatch z)⟩
  | some k => exact ⟨fun z => by have := V.int.inj z; rw [Int.ofNat.inj this], fun z => by rw [Option.some.inj z]; rfl⟩
theorem scal_oo (o : Option Nat) (i : Int) : scal (oV o) (.int i) = true := by cases o <;> rfl
theorem scal_on (o : Option Nat) : scal (oV o) .non = true := by cases o <;> rfl
theorem flat_o (o : Option Nat) : flatV (oV o) = true := by cases o <;> rfl

/-- the words of the refusals -/
inductive Wd where
  | noTable | noHall | noAgent | noLock | noHouse | noLetter | stopped | waits | holds | notHeld | up
  deriving DecidableEq
def Wd.str : Wd → Str
  | .noTable => "NoTable" | .noHall => "NoHall" | .noAgent => "NoAgent" | .noLock => "NoLock" | .noHouse => "NoHouse" | .noLetter => "NoLetter"
  | .stopped => "Stopped" | .waits => "Waits" | .holds => "Holds" | .notHeld => "NotHeld" | .up => "Up"
/-- the class of a refusal -/
def Wd.cls (K : PySem.W.Frag) (w : Wd) : Value := .ref (He.ga K w.str)

structure Tb where
  own : List (Option Nat)
  lin : List (List Nat)
  tim : List Nat
  wan : List (Option Nat)
  rou : List Nat
namespace Tb
def n (T : Tb) : Nat := T.wan.length
def m (T : Tb) : Nat := T.own.length
def ow (T : Tb) (l : Nat) : Option Nat := T.own.getD l none
def ln (T : Tb) (l : Nat) : List Nat := T.lin.getD l []
def ti (T : Tb) (l : Nat) : Nat := T.tim.getD l 0
def wa (T : Tb) (a : Nat) : Option Nat := T.wan.getD a none
def ro (T : Tb) (a : Nat) : Nat := T.rou.getD a 0
/-- sizes -/
structure Sz (T : Tb) : Prop where
  n1 : 1 ≤ T.n
  n8 : T.n ≤ 8
  m1 : 1 ≤ T.m
  m12 : T.m ≤ 12
  li : T.lin.length = T.m
  ti : T.tim.length = T.m
  ro : T.rou.length = T.n
def take (T : Tb) (a l : Nat) : Tb := { T with own := T.own.set l (some a), tim := T.tim.set l (T.ti l + 1) }
def free (T : Tb) (l : Nat) : Tb := { T with own := T.own.set l none }
def stop (T : Tb) (a : Nat) : Tb := { T with wan := T.wan.set a none }
def line (T : Tb) (l : Nat) (xs : List Nat) : Tb := { T with lin := T.lin.set l xs }
def wait (T : Tb) (a l : Nat) : Tb := { T with lin := T.lin.set l (T.ln l ++ [a]), wan := T.wan.set a (some l), rou := T.rou.set a (T.ro a + 1) }
/-- who holds a lock that is given -/
def pass (T : Tb) (l : Nat) : Tb := match T.ln l with
  | [] => T.free l
  | a :: r => (((T.free l).line l r).stop a).take a l
def heir (T : Tb) (l : Nat) : Option Nat := (T.ln l).head?
def held (T : Tb) (a : Nat) : List Nat := (List.range T.m).filter fun l => decide (T.ow l = some a)
def unwait (T : Tb) (a : Nat) : Tb := match T.wa a with
  | none => T
  | some l => (T.line l ((T.ln l).erase a)).stop a
def passAll : List Nat → Tb → List (Nat × Option Nat) × Tb
  | [], T => ([], T)
  | l :: r, T => let p := passAll r (T.pass l); ((l, T.heir l) :: p.1, p.2)
def leave (T : Tb) (a : Nat) : List (Nat × Option Nat) × Tb := passAll ((T.unwait a).held a) (T.unwait a)
def isA (T : Tb) (a : Int) : Prop := 0 ≤ a ∧ a < T.n
def isL (T : Tb) (l : Int) : Prop := 0 ≤ l ∧ l < T.m
instance (T : Tb) (a : Int) : Decidable (T.isA a) := by unfold isA; infer_instance
instance (T : Tb) (l : Int) : Decidable (T.isL l) := by unfold isL; infer_instance
/-- the refusal of an agent, a lock that there isn't -/
def fault (T : Tb) (a l : Int) : Option Wd := if T.isA a then (if T.isL l then none else some .noLock) else some .noAgent
def askR (T : Tb) (a l : Int) : Except Wd Bool × Tb := match T.fault a l with
  | some w => (.error w, T)
  | none => if T.wa a.toNat ≠ none then (.error .waits, T) else if T.ow l.toNat = some a.toNat then (.error .holds, T) else
    if T.ow l.toNat = none then (.ok true, T.take a.toNat l.toNat) else (.ok false, T.wait a.toNat l.toNat)
def giveR (T : Tb) (a l : Int) : Except Wd (Option Nat) × Tb := match T.fault a l with
  | some w => (.error w, T)
  | none => if T.wa a.toNat ≠ none then (.error .waits, T) else if T.ow l.toNat ≠ some a.toNat then (.error .notHeld, T) else (.ok (T.heir l.toNat), T.pass l.toNat)
def leaveR (T : Tb) (a : Int) : Except Wd (List (Nat × Option Nat)) × Tb := if T.isA a then (.ok (T.leave a.toNat).1, (T.leave a.toNat).2) else (.error .noAgent, T)
/-- a new table -/
def new (n m : Nat) : Tb := ⟨List.replicate m none, List.replicate m [], List.replicate m 0, List.replicate n none, List.replicate n 0⟩
end Tb

/-! ### sizes stay -/
namespace Tb
variable {T : Tb} {a l : Nat}
theorem Sz.congr {T' : Tb} (s : T.Sz) (h1 : T'.n = T.n) (h2 : T'.m = T.m) (h3 : T'.lin.length = T.lin.length) (h4 : T'.tim.length = T.tim.length) (h5 : T'.rou.length = T.rou.length) : T'.Sz :=
  ⟨h1 ▸ s.n1, h1 ▸ s.n8, h2 ▸ s.m1, h2 ▸ s.m12, by rw [h3, h2]; exact s.li, by rw [h4, h2]; exact s.ti, by rw [h5, h1]; exact s.ro⟩
theorem Sz.free (s : T.Sz) : (T.free l).Sz := s.congr rfl (by unfold Tb.m Tb.free; simp) rfl rfl rfl
theorem Sz.stop (s : T.Sz) : (T.stop a).Sz := s.congr (by unfold Tb.n Tb.stop; simp) rfl rfl rfl rfl
theorem Sz.line {xs : List Nat} (s : T.Sz) : (T.line l xs).Sz := s.congr rfl rfl (by unfold Tb.line; simp) rfl rfl
theorem Sz.take (s : T.Sz) : (T.take a l).Sz := s.congr rfl (by unfold Tb.m Tb.take; simp) rfl (by unfold Tb.take; simp) rfl
theorem Sz.wait (s : T.Sz) : (T.wait a l).Sz := s.congr (by unfold Tb.n Tb.wait; simp) rfl (by unfold Tb.wait; simp) rfl (by unfold Tb.wait; simp)
end Tb

/-! ### where a table stands -/
structure TA where
  p : Addr
  dx : Addr
  ow : Addr
  li : Addr
  ti : Addr
  wa : Addr
  ro : Addr
  ls : List Addr
/-- what may be written -/
def TA.foot (A : TA) : Addr → Prop := fun b => b ∈ A.ow :: A.ti :: A.wa :: A.ro :: A.ls
def TA.has (A : TA) : Addr → Prop := fun b => b ∈ A.p :: A.li :: A.ow :: A.ti :: A.wa :: A.ro :: A.ls
def TA.fs (A : TA) : List (Str × V) := [("owners", .ref A.ow), ("lines", .ref A.li), ("times", .ref A.ti), ("wants", .ref A.wa), ("rounds", .ref A.ro)]
structure TbAt (C : Addr) (H : Hp) (A : TA) (T : Tb) : Prop where
  ins : H A.p = some (.ins C A.dx A.fs)
  own : H A.ow = some (.lst (T.own.map oV))
  lin : H A.li = some (.lst (A.ls.map V.ref))
  tim : H A.ti = some (.lst (T.tim.map nV))
  wan : H A.wa = some (.lst (T.wan.map oV))
  rou : H A.ro = some (.lst (T.rou.map nV))
  each : ∀ i a, A.ls[i]? = some a → H a = some (.lst ((T.ln i).map nV))
  ll : A.ls.length = T.lin.length
  nd : (A.p :: A.li :: A.ow :: A.ti :: A.wa :: A.ro :: A.ls).Nodup
  sz : T.Sz
theorem TA.has_foot {A : TA} {b : Addr} (h : A.foot b) : A.has b := by
  unfold TA.foot at h
  unfold TA.has
  exact List.mem_cons_of_mem _ (List.mem_cons_of_mem _ h)
theorem lk_owners {A : TA} : A.fs.lookup ("owners" : Str) = some (V.ref A.ow) := by rfl
theorem lk_lines {A : TA} : A.fs.lookup ("lines" : Str) = some (V.ref A.li) := by rfl
theorem lk_times {A : TA} : A.fs.lookup ("times" : Str) = some (V.ref A.ti) := by rfl
theorem lk_wants {A : TA} : A.fs.lookup ("wants" : Str) = some (V.ref A.wa) := by rfl
theorem lk_rounds {A : TA} : A.fs.lookup ("rounds" : Str) = some (V.ref A.ro) := by rfl
/-- no method's name is a field's -/
theorem lk_not {A : TA} {m : Str} (h : ([("owners" : Str), "lines", "times", "wants", "rounds"].contains m) = false) : A.fs.lookup m = none := by
  unfold TA.fs
  simp only [List.contains_cons, List.contains_nil, Bool.or_eq_false_iff, Bool.or_false] at h
  obtain ⟨h1, h2, h3, h4, h5⟩ := h
  simp only [List.lookup, h1, h2, h3, h4, h5]

section
variable {C : Addr} {H H' : Hp} {A : TA} {T : Tb} {S : Addr → Prop} {K : PySem.W.Frag} {Q : VK} {QH : Hp → Prop}
theorem TbAt.fr (h : TbAt C H A T) (f : Fr S H H') (d : ∀ b, A.has b → ¬ S b) : TbAt C H' A T := by
  have m : ∀ b o, H b = some o → A.has b → H' b = some o := fun b o e hb => f.old b o e (d b hb)
  refine ⟨m _ _ h.ins ?_, m _ _ h.own ?_, m _ _ h.lin ?_, m _ _ h.tim ?_, m _ _ h.wan ?_, m _ _ h.rou ?_, fun i a e => m _ _ (h.each i a e) ?_, h.ll, h.nd, h.sz⟩
  all_goals unfold TA.has
  all_goals first | (simp; done) | skip
  exact List.mem_cons_of_mem _ (List.mem_cons_of_mem _ (List.mem_cons_of_mem _ (List.mem_cons_of_mem _ (List.mem_cons_of_mem _ (List.mem_cons_of_mem _ (List.mem_of_getElem? e))))))
theorem TbAt.fr0 (h : TbAt C H A T) (f : Fr No H H') : TbAt C H' A T := h.fr f fun _ _ z => z
theorem TbAt.old (h : TbAt C H A T) {b : Addr} (hb : A.has b) : ∃ o, H b = some o ∧ ∀ xs, o ≠ .tup xs := by
  unfold TA.has at hb
  simp only [List.mem_cons] at hb
  rcases hb with e | e | e | e | e | e | e
  · rw [e]; exact ⟨_, h.ins, fun xs z => by cases z⟩
  · rw [e]; exact ⟨_, h.lin, fun xs z => by cases z⟩
  · rw [e]; exact ⟨_, h.own, fun xs z => by cases z⟩
  · rw [e]; exact ⟨_, h.tim, fun xs z => by cases z⟩
  · rw [e]; exact ⟨_, h.wan, fun xs z => by cases z⟩
  · rw [e]; exact ⟨_, h.rou, fun xs z => by cases z⟩
  · obtain ⟨i, hi, e⟩ := List.mem_iff_getElem.mp e
    exact ⟨_, h.each i b (by rw [List.getElem?_eq_getElem hi, e]), fun xs z => by cases z⟩
theorem TbAt.put (h : TbAt C H A T) {b : Addr} {u : HO} (hb : A.foot b) : Fr A.foot H (upd H b u) := by
  obtain ⟨o, e, nt⟩ := h.old (TA.has_foot hb)
  exact (Fr.put e nt).mono fun c z => by rw [z]; exact hb
/-- the inequalities of the places -/
structure TA.Ne (A : TA) : Prop where
  pl : A.p ≠ A.li
  po : A.p ≠ A.ow
  pt : A.p ≠ A.ti
  pw : A.p ≠ A.wa
  pr : A.p ≠ A.ro
  ps : A.p ∉ A.ls
  lo : A.li ≠ A.ow
  lt : A.li ≠ A.ti
  lw : A.li ≠ A.wa
  lr : A.li ≠ A.ro
  ls : A.li ∉ A.ls
  ot : A.ow ≠ A.ti
  ow : A.ow ≠ A.wa
  or_ : A.ow ≠ A.ro
  os : A.ow ∉ A.ls
  tw : A.ti ≠ A.wa
  tr : A.ti ≠ A.ro
  ts : A.ti ∉ A.ls
  wr : A.wa ≠ A.ro
  ws : A.wa ∉ A.ls
  rs : A.ro ∉ A.ls
  nd : A.ls.Nodup
theorem TA.ne_of {A : TA} (nd : (A.p :: A.li :: A.ow :: A.ti :: A.wa :: A.ro :: A.ls).Nodup) : A.Ne := by
  simp only [List.nodup_cons, List.mem_cons, not_or] at nd
  obtain ⟨⟨p1, p2, p3, p4, p5, p6⟩, ⟨l1, l2, l3, l4, l5⟩, ⟨o1, o2, o3, o4⟩, ⟨t1, t2, t3⟩, ⟨w1, w2⟩, r1, n⟩ := nd
  exact ⟨p1, p2, p3, p4, p5, p6, l1, l2, l3, l4, l5, o1, o2, o3, o4, t1, t2, t3, w1, w2, r1, n⟩
theorem TbAt.ne (h : TbAt C H A T) : A.Ne := TA.ne_of h.nd
theorem ne_ls {x a : Addr} {ls : List Addr} {i : Nat} (h : x ∉ ls) (e : ls[i]? = some a) : a ≠ x := fun z => h (z ▸ List.mem_of_getElem? e)
theorem TbAt.uOwn (h : TbAt C H A T) {o : List (Option Nat)} (hl : o.length = T.own.length) : TbAt C (upd H A.ow (.lst (o.map oV))) A { T with own := o } := by
  have N := h.ne
  refine ⟨(upd_ne N.po).trans h.ins, upd_same, (upd_ne N.lo).trans h.lin, (upd_ne N.ot.symm).trans h.tim, (upd_ne N.ow.symm).trans h.wan, (upd_ne N.or_.symm).trans h.rou, fun i a e => (upd_ne (ne_ls N.os e)).trans (h.each i a e), h.ll, h.nd, h.sz.congr rfl hl rfl rfl rfl⟩
theorem TbAt.uTim (h : TbAt C H A T) {o : List Nat} (hl : o.length = T.tim.length) : TbAt C (upd H A.ti (.lst (o.map nV))) A { T with tim := o } := by
  have N := h.ne
  refine ⟨(upd_ne N.pt).trans h.ins, (upd_ne N.ot).trans h.own, (upd_ne N.lt).trans h.lin, upd_same, (upd_ne N.tw.symm).trans h.wan, (upd_ne N.tr.symm).trans h.rou, fun i a e => (upd_ne (ne_ls N.ts e)).trans (h.each i a e), h.ll, h.nd, h.sz.congr rfl rfl rfl hl rfl⟩
theorem TbAt.uWan (h : TbAt C H A T) {o : List (Option Nat)} (hl : o.length = T.wan.length) : TbAt C (upd H A.wa (.lst (o.map oV))) A { T with wan := o } := by
  have N := h.ne
  refine ⟨(upd_ne N.pw).trans h.ins, (upd_ne N.ow).trans h.own, (upd_ne N.lw).trans h.lin, (upd_ne N.tw).trans h.tim, upd_same, (upd_ne N.wr.symm).trans h.rou, fun i a e => (upd_ne (ne_ls N.ws e)).trans (h.each i a e), h.ll, h.nd, h.sz.congr hl rfl rfl rfl rfl⟩
theorem TbAt.uRou (h : TbAt C H A T) {o : List Nat} (hl : o.length = T.rou.length) : TbAt C (upd H A.ro (.lst (o.map nV))) A { T with rou := o } := by
  have N := h.ne
  refine ⟨(upd_ne N.pr).trans h.ins, (upd_ne N.or_).trans h.own, (upd_ne N.lr).trans h.lin, (upd_ne N.tr).trans h.tim, (upd_ne N.wr).trans h.wan, upd_same, fun i a e => (upd_ne (ne_ls N.rs e)).trans (h.each i a e), h.ll, h.nd, h.sz.congr rfl rfl rfl rfl hl⟩
theorem ln_line {l i : Nat} {xs : List Nat} (hl : l < T.lin.length) : (T.line l xs).ln i = if i = l then xs else T.ln i := by
  unfold Tb.line Tb.ln
  simp only [List.getD_eq_getElem?_getD, List.getElem?_set]
  by_cases e : l = i
  · rw [if_pos e, if_pos e.symm, if_pos hl]
    rfl
  · rw [if_neg e, if_neg (fun z => e z.symm)]
theorem TbAt.uLine (h : TbAt C H A T) {l : Nat} {a : Addr} {xs : List Nat} (e : A.ls[l]? = some a) : TbAt C (upd H a (.lst (xs.map nV))) A (T.line l xs) := by
  have N := h.ne
  have ma := List.mem_of_getElem? e
  have hl : l < T.lin.length := by rw [← h.ll]; exact (List.getElem?_eq_some_iff.mp e).1
  have nx : ∀ {x : Addr}, x ∉ A.ls → x ≠ a := fun hx z => hx (z ▸ ma)
  refine ⟨(upd_ne (nx N.ps)).trans h.ins, (upd_ne (nx N.os)).trans h.own, (upd_ne (nx N.ls)).trans h.lin, (upd_ne (nx N.ts)).trans h.tim, (upd_ne (nx N.ws)).trans h.wan, (upd_ne (nx N.rs)).trans h.rou, fun i b eb => ?_, by rw [h.ll]; unfold Tb.line; simp, h.nd, h.sz.line⟩
  rw [ln_line hl]
  by_cases z : i = l
  · rw [if_pos z]
    rw [z, e] at eb
    rw [← Option.some.inj eb, upd_same]
  · rw [if_neg z, upd_ne]
    · exact h.each i b eb
    · intro q
      rw [q] at eb
      exact z (nd_ix N.nd eb e)
/-! the attributes -/
structure TbTxt (K : PySem.W.Frag) (C : Addr) : Prop where
  c : Cls K C
  o : NoAttr K C "owners"
  l : NoAttr K C "lines"
  t : NoAttr K C "times"
  w : NoAttr K C "wants"
  r : NoAttr K C "rounds"
theorem r_owners (X : TbTxt K C) (h : TbAt C H A T) (q : Q (.ref A.ow) H) : FldOn K "owners" (.ref A.p) H Q := r_fldOn h.ins X.c X.o lk_owners q
theorem r_lines (X : TbTxt K C) (h : TbAt C H A T) (q : Q (.ref A.li) H) : FldOn K "lines" (.ref A.p) H Q := r_fldOn h.ins X.c X.l lk_lines q
theorem r_times (X : TbTxt K C) (h : TbAt C H A T) (q : Q (.ref A.ti) H) : FldOn K "times" (.ref A.p) H Q := r_fldOn h.ins X.c X.t lk_times q
theorem r_wants (X : TbTxt K C) (h : TbAt C H A T) (q : Q (.ref A.wa) H) : FldOn K "wants" (.ref A.p) H Q := r_fldOn h.ins X.c X.w lk_wants q
theorem r_rounds (X : TbTxt K C) (h : TbAt C H A T) (q : Q (.ref A.ro) H) : FldOn K "rounds" (.ref A.p) H Q := r_fldOn h.ins X.c X.r lk_rounds q
theorem r_tmeth {m : Str} {G : Prop} (h : TbAt C H A T) (hm : ([("owners" : Str), "lines", "times", "wants", "rounds"].contains m) = false) (g : G) : MethOn C m (.ref A.p) H G := r_methOn h.ins (lk_not hm) g
/-! the items -/
theorem getD_some {α : Type} {xs : List α} {i : Nat} {d : α} (h : i < xs.length) : xs[i]? = some (xs.getD i d) := by
  rw [List.getD_eq_getElem?_getD, List.getElem?_eq_getElem h]
  rfl
theorem map_at {α : Type} {f : α → V} {xs : List α} {i : Nat} {d : α} (h : i < xs.length) : (xs.map f)[i]? = some (f (xs.getD i d)) := by
  rw [List.getElem?_map, getD_some h]
  rfl
theorem r_ixl {a : Addr} {xs : List V} {i : Nat} {v : V} (h : H a = some (.lst xs)) (e : xs[i]? = some v) (q : Q v H) : rIxL K (.ref a) (.int (i : Int)) H Q := ⟨a, _, _, _, rfl, rfl, SqL.of h, atI_nat e, q⟩
theorem r_ixOwn (h : TbAt C H A T) {l : Nat} (hl : l < T.m) (q : Q (oV (T.ow l)) H) : rIxL K (.ref A.ow) (.int (l : Int)) H Q := r_ixl h.own (map_at hl) q
theorem r_ixTim (h : TbAt C H A T) {l : Nat} (hl : l < T.m) (q : Q (.int (T.ti l : Int)) H) : rIxL K (.ref A.ti) (.int (l : Int)) H Q := r_ixl h.tim (map_at (f := nV) (by rw [h.sz.ti]; exact hl)) q
theorem r_ixWan (h : TbAt C H A T) {l : Nat} (hl : l < T.n) (q : Q (oV (T.wa l)) H) : rIxL K (.ref A.wa) (.int (l : Int)) H Q := r_ixl h.wan (map_at hl) q
theorem r_ixRou (h : TbAt C H A T) {l : Nat} (hl : l < T.n) (q : Q (.int (T.ro l : Int)) H) : rIxL K (.ref A.ro) (.int (l : Int)) H Q := r_ixl h.rou (map_at (f := nV) (by rw [h.sz.ro]; exact hl)) q
theorem r_ixLin (h : TbAt C H A T) {l : Nat} (hl : l < T.m) (q : ∀ a, A.ls[l]? = some a → H a = some (.lst ((T.ln l).map nV)) → Q (.ref a) H) : rIxL K (.ref A.li) (.int (l : Int)) H Q := by
  have hl' : l < A.ls.length := by rw [h.ll, h.sz.li]; exact hl
  have e := List.getElem?_eq_getElem hl'
  exact r_ixl h.lin (by rw [List.getElem?_map, e]; rfl) (q _ e (h.each _ _ e))
theorem r_lenWan (h : TbAt C H A T) (q : Q (.int (T.n : Int)) H) : rLenQ K [V.ref A.wa] H Q := ⟨A.wa, _, rfl, .inl (SqL.of h.wan), by rw [List.length_map]; exact q⟩
theorem r_lenOwn (h : TbAt C H A T) (q : Q (.int (T.m : Int)) H) : rLenQ K [V.ref A.ow] H Q := ⟨A.ow, _, rfl, .inl (SqL.of h.own), by rw [List.length_map]; exact q⟩
/-! the stores -/
theorem map_set {α : Type} {f : α → V} {xs : List α} {i : Nat} {x : α} : (xs.map f).set i (f x) = (xs.set i x).map f := List.map_set.symm
theorem ixN_nat {n j : Nat} (hj : j < n) : ixN n (j : Int) = some j := by
  unfold ixN
  rw [if_pos (by omega), if_pos (by omega)]
  simp
theorem r_setl {a : Addr} {xs : List V} {i : Nat} {v : V} (h : H a = some (.lst xs)) (hi : i < xs.length) (q : QH (upd H a (.lst (xs.set i v)))) : rSetL (.ref a) (.int (i : Int)) v H QH := ⟨a, xs, _, i, rfl, rfl, h, ixN_nat hi, q⟩
theorem r_setOwn (h : TbAt C H A T) {l : Nat} (hl : l < T.m) (o : Option Nat) (q : ∀ H', TbAt C H' A { T with own := T.own.set l o } → Fr A.foot H H' → QH H') : rSetL (.ref A.ow) (.int (l : Int)) (oV o) H QH := by
  refine r_setl h.own (by rw [List.length_map]; exact hl) (q _ ?_ (h.put (by simp [TA.foot])))
  rw [map_set]
  exact h.uOwn (by simp)
theorem r_setTim (h : TbAt C H A T) {l : Nat} (hl : l < T.m) (o : Nat) (q : ∀ H', TbAt C H' A { T with tim := T.tim.set l o } → Fr A.foot H H' → QH H') : rSetL (.ref A.ti) (.int (l : Int)) (nV o) H QH := by
  refine r_setl h.tim (by rw [List.length_map, h.sz.ti]; exact hl) (q _ ?_ (h.put (by simp [TA.foot])))
  rw [map_set]
  exact h.uTim (by simp)
theorem r_setWan (h : TbAt C H A T) {l : Nat} (hl : l < T.n) (o : Option Nat) (q : ∀ H', TbAt C H' A { T with wan := T.wan.set l o } → Fr A.foot H H' → QH H') : rSetL (.ref A.wa) (.int (l : Int)) (oV o) H QH := by
  refine r_setl h.wan (by rw [List.length_map]; exact hl) (q _ ?_ (h.put (by simp [TA.foot])))
  rw [map_set]
  exact h.uWan (by simp)
theorem r_setRou (h : TbAt C H A T) {l : Nat} (hl : l < T.n) (o : Nat) (q : ∀ H', TbAt C H' A { T with rou := T.rou.set l o } → Fr A.foot H H' → QH H') : rSetL (.ref A.ro) (.int (l : Int)) (nV o) H QH := by
  refine r_setl h.rou (by rw [List.length_map, h.sz.ro]; exact hl) (q _ ?_ (h.put (by simp [TA.foot])))
  rw [map_set]
  exact h.uRou (by simp)
end

/-! ### what holds of a table between its deeds -/
namespace Tb
structure Wf (T : Tb) : Prop where
  sz : T.Sz
  wl : ∀ a l, T.wa a = some l → l < T.m ∧ a ∈ T.ln l
  lw : ∀ l a, a ∈ T.ln l → a < T.n ∧ T.wa a = some l
  nd : ∀ l, (T.ln l).Nodup
  oh : ∀ l a, T.ow l = some a → a < T.n
  lo : ∀ l, T.ln l ≠ [] → T.ow l ≠ none
  no : ∀ a l, T.wa a = some l → T.ow l ≠ some a
variable {T : Tb}
theorem nodup_le {xs : List Nat} {n : Nat} (h : xs.Nodup) (b : ∀ x ∈ xs, x < n) : xs.length ≤ n := by
  have := h.length_le_of_subset (l₂ := List.range n) fun x hx => List.mem_range.mpr (b x hx)
  rwa [List.length_range] at this
theorem Wf.len (W : T.Wf) (l : Nat) : (T.ln l).length ≤ 8 := Nat.le_trans (nodup_le (W.nd l) fun x hx => (W.lw l x hx).1) W.sz.n8
theorem fault_none {a l : Int} (h : T.fault a l = none) : ∃ x y : Nat, a = (x : Int) ∧ l = (y : Int) ∧ x < T.n ∧ y < T.m := by
  unfold fault at h
  by_cases h1 : T.isA a
  · rw [if_pos h1] at h
    by_cases h2 : T.isL l
    · obtain ⟨a1, a2⟩ := h1
      obtain ⟨l1, l2⟩ := h2
      exact ⟨a.toNat, l.toNat, by omega, by omega, by omega, by omega⟩
    · rw [if_neg h2] at h
      cases h
  · rw [if_neg h1] at h
    cases h
theorem isA_nat {a : Int} (h : T.isA a) : ∃ x : Nat, a = (x : Int) ∧ x < T.n := ⟨a.toNat, by have := h.1; omega, by have := h.1; have := h.2; omega⟩
theorem isL_nat {a : Int} (h : T.isL a) : ∃ x : Nat, a = (x : Int) ∧ x < T.m := ⟨a.toNat, by have := h.1; omega, by have := h.1; have := h.2; omega⟩
theorem isA_of {a : Nat} (h : a < T.n) : T.isA (a : Int) := ⟨by omega, by omega⟩
theorem isL_of {a : Nat} (h : a < T.m) : T.isL (a : Int) := ⟨by omega, by omega⟩
theorem fault_of {a l : Nat} (ha : a < T.n) (hl : l < T.m) : T.fault (a : Int) (l : Int) = none := by
  unfold fault
  rw [if_pos (isA_of ha), if_pos (isL_of hl)]
theorem askR_nat {a l : Nat} (ha : a < T.n) (hl : l < T.m) : T.askR (a : Int) (l : Int) = if T.wa a ≠ none then (.error .waits, T) else if T.ow l = some a then (.error .holds, T) else
    if T.ow l = none then (.ok true, T.take a l) else (.ok false, T.wait a l) := by
  unfold askR
  rw [fault_of ha hl]
  simp only [Int.toNat_natCast]
theorem giveR_nat {a l : Nat} (ha : a < T.n) (hl : l < T.m) : T.giveR (a : Int) (l : Int) = if T.wa a ≠ none then (.error .waits, T) else if T.ow l ≠ some a then (.error .notHeld, T) else (.ok (T.heir l), T.pass l) := by
  unfold giveR
  rw [fault_of ha hl]
  simp only [Int.toNat_natCast]
theorem askR_err {a l : Int} {w : Wd} (h : T.fault a l = some w) : T.askR a l = (.error w, T) := by
  unfold askR
  rw [h]
theorem giveR_err {a l : Int} {w : Wd} (h : T.fault a l = some w) : T.giveR a l = (.error w, T) := by
  unfold giveR
  rw [h]
theorem leaveR_nat {a : Nat} (ha : a < T.n) : T.leaveR (a : Int) = (.ok (T.leave a).1, (T.leave a).2) := by
  unfold leaveR
  rw [if_pos (isA_of ha)]
  simp only [Int.toNat_natCast]
end Tb
section
variable {C : Addr} {H H' : Hp} {A : TA} {T : Tb} {S : Addr → Prop} {K : PySem.W.Frag} {Q : VK} {QH : Hp → Prop} {σ : L2.St}
theorem ls_foot {l : Nat} {a : Addr} (e : A.ls[l]? = some a) : A.foot a := by
  unfold TA.foot
  simp only [List.mem_cons]
  exact .inr (.inr (.inr (.inr (List.mem_of_getElem? e))))
/-- the first of a line goes -/
theorem r_popLine (h : TbAt C H A T) {l : Nat} {a : Addr} {x : Nat} {r : List Nat} (e : A.ls[l]? = some a) (hx : T.ln l = x :: r) (q : ∀ H', TbAt C H' A (T.line l r) → Fr A.foot H H' → Q (.int (x : Int)) H') :
    rPopAt (.ref a) [.int 0] H Q := by
  have he := h.each _ _ e
  rw [hx] at he
  refine r_popAt (i := 0) he rfl (by decide) (q _ ?_ (h.put (ls_foot e)))
  exact h.uLine e
/-- one more in a line -/
theorem r_appLine (h : TbAt C H A T) (hw : (T.ln l).length ≤ 8) {a : Addr} {x : Nat} (e : A.ls[l]? = some a) (q : ∀ H', TbAt C H' A (T.line l (T.ln l ++ [x])) → Fr A.foot H H' → Q .non H') :
    rAppend (.ref a) [.int (x : Int)] H Q := by
  refine r_append (h.each _ _ e) (by rw [List.length_map]; omega) ?_
  have en : ((T.ln l).map nV ++ [V.int (x : Int)]) = (T.ln l ++ [x]).map nV := by
    rw [List.map_append]
    rfl
  rw [en]
  exact q _ (h.uLine e) (h.put (ls_foot e))
theorem map_eraseIdx {α β : Type} {f : α → β} : ∀ {xs : List α} {j : Nat}, (xs.map f).eraseIdx j = (xs.eraseIdx j).map f
  | [], _ => by simp
  | _ :: _, 0 => rfl
  | x :: r, j + 1 => by
    show f x :: (r.map f).eraseIdx j = f x :: (r.eraseIdx j).map f
    rw [map_eraseIdx]
theorem first_at : ∀ {xs : List Nat} {x : Nat}, x ∈ xs → ∃ j, xs[j]? = some x ∧ (∀ m, m < j → xs[m]? ≠ some x) ∧ xs.eraseIdx j = xs.erase x
  | [], x, h => by cases h
  | y :: r, x, h => by
    by_cases e : y = x
    · subst e
      exact ⟨0, rfl, fun m hm => absurd hm (Nat.not_lt_zero m), by simp⟩
    · have hr : x ∈ r := by
        rcases List.mem_cons.mp h with z | z
        · exact absurd z.symm e
        · exact z
      obtain ⟨j, h1, h2, h3⟩ := first_at hr
      refine ⟨j + 1, by simpa using h1, fun m hm => ?_, ?_⟩
      · cases m with
        | zero => simpa using e
        | succ m => simpa using h2 m (by omega)
      · rw [List.erase_cons_tail (by simpa using e), List.eraseIdx_cons_succ, h3]
/-- one goes out of a line -/
theorem r_remLine (h : TbAt C H A T) {l : Nat} {a : Addr} {x : Nat} (e : A.ls[l]? = some a) (hx : x ∈ T.ln l) (q : ∀ H', TbAt C H' A (T.line l ((T.ln l).erase x)) → Fr A.foot H H' → Q .non H') :
    rRemI (.ref a) [.int (x : Int)] H Q := by
  have he := h.each _ _ e
  obtain ⟨j, hat, hfirst, hera⟩ := first_at hx
  have e1 : ∀ xs : List Nat, (xs.map fun n : Nat => (n : Int)).map V.int = xs.map nV := fun xs => by
    rw [List.map_map]
    rfl
  refine ⟨a, (T.ln l).map fun n : Nat => (n : Int), (x : Int), j, rfl, rfl, by rw [e1]; exact he, by rw [List.getElem?_map, hat]; rfl, fun m hm z => ?_, ?_⟩
  · rw [List.getElem?_map] at z
    cases q : (T.ln l)[m]? with
    | none => rw [q] at z; cases z
    | some y =>
      rw [q] at z
      have z2 : (y : Int) = (x : Int) := Option.some.inj z
      exact hfirst m hm (by rw [q]; congr 1; omega)
  · have e2 : ((T.ln l).map fun n : Nat => (n : Int)).eraseIdx j = ((T.ln l).erase x).map fun n : Nat => (n : Int) := by
      rw [← hera, map_eraseIdx]
    rw [e2, e1]
    exact q _ (h.uLine e) (h.put (ls_foot e))
theorem nats_dp {xs : List Nat} {a : Addr} (h : H a = some (.lst (xs.map nV))) : Dp K H (.ref a) (.list (xs.map fun x : Nat => PyData.int (x : Int))) := by
  refine .lst (SqL.of h) ?_
  have := (int_td H (xs.map fun x : Nat => (x : Int))).dp (K := K)
  rw [List.map_map, List.map_map] at this
  exact this
theorem nats_cmp (xs : List Nat) : CmpAll (xs.map fun x : Nat => PyData.int (x : Int)) := CmpAll.of fun d hd => by
  obtain ⟨x, _, e⟩ := List.mem_map.mp hd
  rw [← e]
  exact ⟨by simp [PyData.canLay0], by simp [PyData.depth]⟩
theorem nats_nil {xs : List Nat} : (xs.map (fun x : Nat => PyData.int (x : Int)) = []) ↔ xs = [] := by simp
end
end AL

namespace AL
open PySem PySem.Spec PyProof.Rows L2
/-! # tables: what the deeds leave true (no program in sight) -/
theorem getD_set {α : Type} {xs : List α} {i j : Nat} {v d : α} : (xs.set i v).getD j d = if i = j ∧ i < xs.length then v else xs.getD j d := by
  simp only [List.getD_eq_getElem?_getD, List.getElem?_set]
  by_cases e : i = j
  · subst e
    by_cases h : i < xs.length
    · simp [h]
    · simp [h]
  · simp [e]
namespace Tb
variable {T : Tb} {a b l k : Nat}
theorem ow_lt {x : Nat} (h : T.ow l = some x) : l < T.m := by
  unfold ow at h
  by_cases q : l < T.own.length
  · exact q
  · rw [List.getD_eq_getElem?_getD, List.getElem?_eq_none (by omega)] at h
    cases h
theorem wa_lt {x : Nat} (h : T.wa a = some x) : a < T.n := by
  unfold wa at h
  by_cases q : a < T.wan.length
  · exact q
  · rw [List.getD_eq_getElem?_getD, List.getElem?_eq_none (by omega)] at h
    cases h
theorem ln_lt {x : Nat} (h : x ∈ T.ln l) : l < T.lin.length := by
  unfold ln at h
  by_cases q : l < T.lin.length
  · exact q
  · rw [List.getD_eq_getElem?_getD, List.getElem?_eq_none (by omega)] at h
    cases h
theorem take_n : (T.take a l).n = T.n := rfl
theorem take_m : (T.take a l).m = T.m := by unfold m take; simp
theorem take_ow : (T.take a l).ow k = if l = k ∧ l < T.m then some a else T.ow k := getD_set
theorem take_ln : (T.take a l).ln k = T.ln k := rfl
theorem take_wa : (T.take a l).wa b = T.wa b := rfl
theorem take_ro : (T.take a l).ro b = T.ro b := rfl
theorem take_ti : (T.take a l).ti k = if l = k ∧ l < T.tim.length then T.ti l + 1 else T.ti k := getD_set
theorem free_n : (T.free l).n = T.n := rfl
theorem free_m : (T.free l).m = T.m := by unfold m free; simp
theorem free_ow : (T.free l).ow k = if l = k ∧ l < T.m then none else T.ow k := getD_set
theorem free_ln : (T.free l).ln k = T.ln k := rfl
theorem free_wa : (T.free l).wa b = T.wa b := rfl
theorem stop_n : (T.stop a).n = T.n := by unfold n stop; simp
theorem stop_m : (T.stop a).m = T.m := rfl
theorem stop_ow : (T.stop a).ow k = T.ow k := rfl
theorem stop_ln : (T.stop a).ln k = T.ln k := rfl
theorem stop_wa : (T.stop a).wa b = if a = b ∧ a < T.n then none else T.wa b := getD_set
theorem line_n {xs : List Nat} : (T.line l xs).n = T.n := rfl
theorem line_m {xs : List Nat} : (T.line l xs).m = T.m := rfl
theorem line_ow {xs : List Nat} : (T.line l xs).ow k = T.ow k := rfl
theorem line_ln {xs : List Nat} : (T.line l xs).ln k = if l = k ∧ l < T.lin.length then xs else T.ln k := getD_set
theorem line_wa {xs : List Nat} : (T.line l xs).wa b = T.wa b := rfl
theorem wait_n : (T.wait a l).n = T.n := by unfold n wait; simp
theorem wait_m : (T.wait a l).m = T.m := rfl
theorem wait_ow : (T.wait a l).ow k = T.ow k := rfl
theorem wait_ln : (T.wait a l).ln k = if l = k ∧ l < T.lin.length then T.ln l ++ [a] else T.ln k := getD_set
theorem wait_wa : (T.wait a l).wa b = if a = b ∧ a < T.n then some l else T.wa b := getD_set
theorem wait_ro : (T.wait a l).ro b = if a = b ∧ a < T.rou.length then T.ro a + 1 else T.ro b := getD_set

theorem Wf.take (W : T.Wf) (ha : a < T.n) (hf : T.ow l = none) : (T.take a l).Wf where
  sz := W.sz.take
  wl := fun b k h => by rw [take_m]; exact W.wl b k h
  lw := fun k b h => W.lw k b h
  nd := fun k => W.nd k
  oh := fun k b h => by
    rw [take_ow] at h
    split at h
    · rw [← Option.some.inj h]; exact ha
    · exact W.oh k b h
  lo := fun k h => by
    rw [take_ow]
    split
    · simp
    · exact W.lo k h
  no := fun b k h => by
    rw [take_ow]
    split
    · rename_i q
      intro z
      have e := (W.wl b k h).2
      rw [← q.1] at e
      exact W.lo l (List.ne_nil_of_mem e) hf
    · exact W.no b k h
theorem Wf.wait (W : T.Wf) (ha : a < T.n) (hl : l < T.m) (hw : T.wa a = none) (h1 : T.ow l ≠ none) (h2 : T.ow l ≠ some a) : (T.wait a l).Wf where
  sz := W.sz.wait
  wl := fun b k h => by
    rw [wait_wa] at h
    rw [wait_m, wait_ln]
    split at h
    · rename_i q
      have e := Option.some.inj h
      subst e
      have hl' : l < T.lin.length := by rw [W.sz.li]; exact hl
      rw [if_pos ⟨rfl, hl'⟩]
      exact ⟨hl, by rw [← q.1]; simp⟩
    · obtain ⟨q1, q2⟩ := W.wl b k h
      refine ⟨q1, ?_⟩
      split
      · rename_i q
        rw [← q.1] at q2
        exact List.mem_append_left _ q2
      · exact q2
  lw := fun k b h => by
    rw [wait_ln] at h
    rw [wait_n, wait_wa]
    split at h
    · rename_i q
      rcases List.mem_append.mp h with z | z
      · obtain ⟨q1, q2⟩ := W.lw l b z
        refine ⟨q1, ?_⟩
        have ne : a ≠ b := fun e => by rw [← e, hw] at q2; cases q2
        rw [if_neg (fun z => ne z.1), q2, q.1]
      · have e : b = a := by simpa using z
        subst e
        rw [if_pos ⟨rfl, ha⟩, q.1]
        exact ⟨ha, rfl⟩
    · obtain ⟨q1, q2⟩ := W.lw k b h
      refine ⟨q1, ?_⟩
      have ne : a ≠ b := fun e => by rw [← e, hw] at q2; cases q2
      rw [if_neg (fun z => ne z.1), q2]
  nd := fun k => by
    rw [wait_ln]
    split
    · rw [List.nodup_append]
      refine ⟨W.nd l, by simp, fun x hx y hy => ?_⟩
      have e : y = a := by simpa using hy
      subst e
      intro z
      subst z
      have := (W.lw l x hx).2
      rw [hw] at this
      cases this
    · exact W.nd k
  oh := fun k b h => by rw [wait_n]; exact W.oh k b h
  lo := fun k h => by
    rw [wait_ln] at h
    rw [wait_ow]
    split at h
    · rename_i q
      rw [← q.1]
      exact h1
    · exact W.lo k h
  no := fun b k h => by
    rw [wait_wa] at h
    rw [wait_ow]
    split at h
    · rename_i q
      rw [← Option.some.inj h, ← q.1]
      exact h2
    · exact W.no b k h
theorem pass_nil (h : T.ln l = []) : T.pass l = T.free l := by unfold pass; rw [h]
theorem pass_cons {x : Nat} {r : List Nat} (h : T.ln l = x :: r) : T.pass l = (((T.free l).line l r).stop x).take x l := by unfold pass; rw [h]
theorem pass_n : (T.pass l).n = T.n := by
  cases h : T.ln l with
  | nil => rw [pass_nil h]; rfl
  | cons x r => rw [pass_cons h, take_n, stop_n]; rfl
theorem pass_m : (T.pass l).m = T.m := by
  cases h : T.ln l with
  | nil => rw [pass_nil h, free_m]
  | cons x r => rw [pass_cons h, take_m, stop_m, line_m, free_m]
theorem pass_ow (hl : l < T.m) : (T.pass l).ow k = if l = k then T.heir l else T.ow k := by
  cases h : T.ln l with
  | nil =>
    rw [pass_nil h, free_ow]
    have e : T.heir l = none := by unfold heir; rw [h]; rfl
    rw [e]
    by_cases q : l = k
    · rw [if_pos ⟨q, hl⟩, if_pos q]
    · rw [if_neg (fun z => q z.1), if_neg q]
  | cons x r =>
    rw [pass_cons h, take_ow, stop_m, line_m, free_m, stop_ow, line_ow, free_ow]
    have e : T.heir l = some x := by unfold heir; rw [h]; rfl
    rw [e]
    by_cases q : l = k
    · rw [if_pos ⟨q, hl⟩, if_pos q]
    · rw [if_neg (fun z => q z.1), if_neg q, if_neg (fun z => q z.1)]
theorem pass_ln (hl : l < T.lin.length) : (T.pass l).ln k = if l = k then (T.ln l).tail else T.ln k := by
  cases h : T.ln l with
  | nil =>
    rw [pass_nil h, free_ln]
    by_cases q : l = k
    · rw [if_pos q, ← q, h]; rfl
    · rw [if_neg q]
  | cons x r =>
    rw [pass_cons h, take_ln, stop_ln, line_ln, free_ln]
    by_cases q : l = k
    · rw [if_pos ⟨q, hl⟩, if_pos q]; rfl
    · rw [if_neg (fun z => q z.1), if_neg q]
theorem pass_wa (W : T.Wf) : (T.pass l).wa b = if T.heir l = some b then none else T.wa b := by
  cases h : T.ln l with
  | nil =>
    have e : T.heir l = none := by unfold heir; rw [h]; rfl
    rw [pass_nil h, free_wa, e]
    simp
  | cons x r =>
    have e : T.heir l = some x := by unfold heir; rw [h]; rfl
    rw [pass_cons h, take_wa, stop_wa, line_wa, free_wa, line_n, free_n, e]
    have hx : x < T.n := (W.lw l x (by rw [h]; exact List.mem_cons_self)).1
    by_cases q : x = b
    · rw [if_pos ⟨q, hx⟩, if_pos (by rw [q])]
    · rw [if_neg (fun z => q z.1), if_neg (fun z => q (Option.some.inj z))]
theorem pass_ro : (T.pass l).ro b = T.ro b := by
  cases h : T.ln l with
  | nil => rw [pass_nil h]; rfl
  | cons x r => rw [pass_cons h]; rfl
theorem Sz.pass (s : T.Sz) : (T.pass l).Sz := by
  cases h : T.ln l with
  | nil => rw [pass_nil h]; exact s.free
  | cons x r => rw [pass_cons h]; exact s.free.line.stop.take
theorem heir_mem (h : T.heir l = some a) : a ∈ T.ln l := by
  unfold heir at h
  cases e : T.ln l with
  | nil => rw [e] at h; cases h
  | cons x r => rw [e] at h; rw [← Option.some.inj h]; exact List.mem_cons_self
theorem heir_none (h : T.heir l = none) : T.ln l = [] := by
  unfold heir at h
  cases e : T.ln l with
  | nil => rfl
  | cons x r => rw [e] at h; cases h
theorem Wf.pass (W : T.Wf) (hl : l < T.m) : (T.pass l).Wf := by
  have hl' : l < T.lin.length := by rw [W.sz.li]; exact hl
  refine ⟨W.sz.pass, fun b k h => ?_, fun k b h => ?_, fun k => ?_, fun k b h => ?_, fun k h => ?_, fun b k h => ?_⟩
  · rw [pass_wa W] at h
    rw [pass_m, pass_ln hl']
    split at h
    · cases h
    · rename_i q
      obtain ⟨q1, q2⟩ := W.wl b k h
      refine ⟨q1, ?_⟩
      split
      · rename_i e
        subst e
        unfold heir at q
        cases e : T.ln l with
        | nil => rw [e] at q2; cases q2
        | cons x r =>
          rw [e] at q2 q
          rcases List.mem_cons.mp q2 with z | z
          · exact absurd (by rw [z]; rfl) q
          · exact z
      · exact q2
  · rw [pass_ln hl'] at h
    rw [pass_n, pass_wa W]
    split at h
    · rename_i e
      subst e
      have hm := List.mem_of_mem_tail h
      obtain ⟨q1, q2⟩ := W.lw l b hm
      refine ⟨q1, ?_⟩
      have nd := W.nd l
      rw [if_neg, q2]
      intro z
      unfold heir at z
      cases e : T.ln l with
      | nil => rw [e] at h; cases h
      | cons x r =>
        rw [e] at h z nd
        have ex : x = b := Option.some.inj z
        subst ex
        exact (List.nodup_cons.mp nd).1 h
    · rename_i ne
      obtain ⟨q1, q2⟩ := W.lw k b h
      refine ⟨q1, ?_⟩
      rw [if_neg, q2]
      intro z
      have := (W.lw l b (heir_mem z)).2
      rw [q2] at this
      exact ne (Option.some.inj this).symm
  · rw [pass_ln hl']
    split
    · exact (W.nd l).sublist (List.tail_sublist _)
    · exact W.nd k
  · rw [pass_ow hl] at h
    rw [pass_n]
    split at h
    · exact (W.lw l b (heir_mem h)).1
    · exact W.oh k b h
  · rw [pass_ln hl'] at h
    rw [pass_ow hl]
    split
    · rename_i e
      rw [if_pos e] at h
      intro z
      rw [heir_none z] at h
      exact h rfl
    · rename_i e
      rw [if_neg e] at h
      exact W.lo k h
  · rw [pass_wa W] at h
    rw [pass_ow hl]
    split at h
    · cases h
    · rename_i q
      split
      · exact q
      · exact W.no b k h
theorem unwait_none (h : T.wa a = none) : T.unwait a = T := by unfold unwait; rw [h]
theorem unwait_some (h : T.wa a = some l) : T.unwait a = (T.line l ((T.ln l).erase a)).stop a := by unfold unwait; rw [h]
theorem unwait_n : (T.unwait a).n = T.n := by
  cases h : T.wa a with
  | none => rw [unwait_none h]
  | some l => rw [unwait_some h, stop_n]; rfl
theorem unwait_m : (T.unwait a).m = T.m := by
  cases h : T.wa a with
  | none => rw [unwait_none h]
  | some l => rw [unwait_some h]; rfl
theorem unwait_ow : (T.unwait a).ow k = T.ow k := by
  cases h : T.wa a with
  | none => rw [unwait_none h]
  | some l => rw [unwait_some h]; rfl
theorem unwait_ro : (T.unwait a).ro k = T.ro k := by
  cases h : T.wa a with
  | none => rw [unwait_none h]
  | some l => rw [unwait_some h]; rfl
theorem unwait_wa (ha : a < T.n) : (T.unwait a).wa b = if a = b then none else T.wa b := by
  cases h : T.wa a with
  | none =>
    rw [unwait_none h]
    by_cases q : a = b
    · rw [if_pos q, ← q, h]
    · rw [if_neg q]
  | some l =>
    rw [unwait_some h, stop_wa, line_wa, line_n]
    by_cases q : a = b
    · rw [if_pos ⟨q, ha⟩, if_pos q]
    · rw [if_neg (fun z => q z.1), if_neg q]
theorem Wf.unwait (W : T.Wf) (ha : a < T.n) : (T.unwait a).Wf := by
  cases h : T.wa a with
  | none => rw [unwait_none h]; exact W
  | some l =>
    obtain ⟨hl, hm⟩ := W.wl a l h
    have hl' : l < T.lin.length := by rw [W.sz.li]; exact hl
    rw [unwait_some h]
    refine ⟨W.sz.line.stop, fun b k hb => ?_, fun k b hb => ?_, fun k => ?_, fun k b hb => ?_, fun k hb => ?_, fun b k hb => ?_⟩
    · rw [stop_wa, line_wa, line_n] at hb
      rw [stop_m, line_m, stop_ln, line_ln]
      split at hb
      · cases hb
      · rename_i q
        have ne : a ≠ b := fun e => q ⟨e, ha⟩
        obtain ⟨q1, q2⟩ := W.wl b k hb
        refine ⟨q1, ?_⟩
        split
        · rename_i e
          rw [← e.1] at q2
          exact (List.mem_erase_of_ne (fun z => ne z.symm)).mpr q2
        · exact q2
    · rw [stop_ln, line_ln] at hb
      rw [stop_n, line_n, stop_wa, line_wa, line_n]
      split at hb
      · rename_i e
        obtain ⟨q1, q2⟩ := (W.nd l).mem_erase_iff.mp hb
        obtain ⟨q3, q4⟩ := W.lw l b q2
        rw [if_neg (fun z => q1 z.1.symm), q4, e.1]
        exact ⟨q3, rfl⟩
      · rename_i e
        obtain ⟨q3, q4⟩ := W.lw k b hb
        refine ⟨q3, ?_⟩
        rw [if_neg, q4]
        intro z
        rw [← z.1, h] at q4
        exact e ⟨Option.some.inj q4, hl'⟩
    · rw [stop_ln, line_ln]
      split
      · exact (W.nd l).erase a
      · exact W.nd k
    · rw [stop_n, line_n]
      exact W.oh k b hb
    · rw [stop_ln, line_ln] at hb
      rw [stop_ow, line_ow]
      split at hb
      · rename_i e
        rw [← e.1]
        exact W.lo l (List.ne_nil_of_mem hm)
      · exact W.lo k hb
    · rw [stop_wa, line_wa, line_n] at hb
      rw [stop_ow, line_ow]
      split at hb
      · cases hb
      · exact W.no b k hb
theorem passAll_snoc : ∀ (ls : List Nat) (T : Tb) (l : Nat), passAll (ls ++ [l]) T = ((passAll ls T).1 ++ [(l, (passAll ls T).2.heir l)], (passAll ls T).2.pass l)
  | [], T, l => rfl
  | k :: r, T, l => by
    have ih := passAll_snoc r (T.pass k) l
    show (let p := passAll (r ++ [l]) (T.pass k); ((k, T.heir k) :: p.1, p.2)) = _
    rw [ih]
    rfl
theorem passAll_len : ∀ (ls : List Nat) (T : Tb), (passAll ls T).1.length = ls.length
  | [], T => rfl
  | k :: r, T => by
    show (passAll r (T.pass k)).1.length + 1 = r.length + 1
    rw [passAll_len r]
theorem passAll_n : ∀ (ls : List Nat) (T : Tb), (passAll ls T).2.n = T.n
  | [], T => rfl
  | k :: r, T => by
    show (passAll r (T.pass k)).2.n = T.n
    rw [passAll_n r, pass_n]
theorem passAll_m : ∀ (ls : List Nat) (T : Tb), (passAll ls T).2.m = T.m
  | [], T => rfl
  | k :: r, T => by
    show (passAll r (T.pass k)).2.m = T.m
    rw [passAll_m r, pass_m]
theorem passAll_ro : ∀ (ls : List Nat) (T : Tb) (b : Nat), (passAll ls T).2.ro b = T.ro b
  | [], T, b => rfl
  | k :: r, T, b => by
    show (passAll r (T.pass k)).2.ro b = T.ro b
    rw [passAll_ro r, pass_ro]
theorem Wf.passAll : ∀ (ls : List Nat) {T : Tb}, T.Wf → (∀ l ∈ ls, l < T.m) → (passAll ls T).2.Wf
  | [], T, W, _ => W
  | k :: r, T, W, h => Wf.passAll r (W.pass (h k List.mem_cons_self)) (fun l hl => by rw [pass_m]; exact h l (List.mem_cons_of_mem _ hl))
theorem mem_held : l ∈ T.held a ↔ T.ow l = some a := by
  unfold held
  rw [List.mem_filter, List.mem_range, decide_eq_true_eq]
  exact ⟨fun z => z.2, fun z => ⟨ow_lt z, z⟩⟩
theorem held_lt {x : Nat} (h : x ∈ T.held a) : x < T.m := ow_lt (mem_held.mp h)
theorem held_len : (T.held a).length ≤ T.m := by
  unfold held
  have h := List.length_filter_le (fun l => decide (T.ow l = some a)) (List.range T.m)
  rw [List.length_range] at h
  exact h
theorem held_nd : (T.held a).Nodup := List.nodup_range.filter _
theorem Wf.leave (W : T.Wf) (ha : a < T.n) : (T.leave a).2.Wf := Wf.passAll _ (W.unwait ha) fun l hl => held_lt hl
theorem leave_n : (T.leave a).2.n = T.n := by unfold leave; rw [passAll_n, unwait_n]
theorem leave_m : (T.leave a).2.m = T.m := by unfold leave; rw [passAll_m, unwait_m]
theorem Wf.askR (W : T.Wf) {x y : Int} : (T.askR x y).2.Wf := by
  cases h : T.fault x y with
  | some w => rw [askR_err h]; exact W
  | none =>
    obtain ⟨a, l, rfl, rfl, ha, hl⟩ := fault_none h
    rw [askR_nat ha hl]
    split
    · exact W
    · rename_i q1
      split
      · exact W
      · rename_i q2
        split
        · rename_i q3
          exact W.take ha q3
        · rename_i q3
          exact W.wait ha hl (Decidable.not_not.mp q1) q3 q2
theorem Wf.giveR (W : T.Wf) {x y : Int} : (T.giveR x y).2.Wf := by
  cases h : T.fault x y with
  | some w => rw [giveR_err h]; exact W
  | none =>
    obtain ⟨a, l, rfl, rfl, ha, hl⟩ := fault_none h
    rw [giveR_nat ha hl]
    split
    · exact W
    · split
      · exact W
      · exact W.pass hl
theorem Wf.leaveR (W : T.Wf) {x : Int} : (T.leaveR x).2.Wf := by
  unfold Tb.leaveR
  split
  · rename_i h
    obtain ⟨a, rfl, ha⟩ := isA_nat h
    exact W.leave ha
  · exact W
theorem askR_n {x y : Int} : (T.askR x y).2.n = T.n := by
  unfold Tb.askR
  split
  · rfl
  · split
    · rfl
    · split
      · rfl
      · split
        · rfl
        · exact wait_n
theorem askR_m {x y : Int} : (T.askR x y).2.m = T.m := by
  unfold Tb.askR
  split
  · rfl
  · split
    · rfl
    · split
      · rfl
      · split
        · exact take_m
        · rfl
theorem giveR_n {x y : Int} : (T.giveR x y).2.n = T.n := by
  unfold Tb.giveR
  split
  · rfl
  · split
    · rfl
    · split
      · rfl
      · exact pass_n
theorem giveR_m {x y : Int} : (T.giveR x y).2.m = T.m := by
  unfold Tb.giveR
  split
  · rfl
  · split
    · rfl
    · split
      · rfl
      · exact pass_m
theorem leaveR_n {x : Int} : (T.leaveR x).2.n = T.n := by
  unfold Tb.leaveR
  split
  · exact leave_n
  · rfl
theorem leaveR_m {x : Int} : (T.leaveR x).2.m = T.m := by
  unfold Tb.leaveR
  split
  · exact leave_m
  · rfl
theorem new_n {n m : Nat} : (Tb.new n m).n = n := by unfold Tb.n Tb.new; simp
theorem new_m {n m : Nat} : (Tb.new n m).m = m := by unfold Tb.m Tb.new; simp
theorem getD_replicate {α : Type} {n i : Nat} {x : α} : (List.replicate n x).getD i x = x := by
  rw [List.getD_eq_getElem?_getD, List.getElem?_replicate]
  split <;> rfl
theorem Sz.new {n m : Nat} (h1 : 1 ≤ n) (h2 : n ≤ 8) (h3 : 1 ≤ m) (h4 : m ≤ 12) : (Tb.new n m).Sz := ⟨by rw [new_n]; exact h1, by rw [new_n]; exact h2, by rw [new_m]; exact h3, by rw [new_m]; exact h4, by rw [new_m]; simp [Tb.new], by rw [new_m]; simp [Tb.new], by rw [new_n]; simp [Tb.new]⟩
theorem new_wa {n m a : Nat} : (Tb.new n m).wa a = none := getD_replicate
theorem new_ow {n m a : Nat} : (Tb.new n m).ow a = none := getD_replicate
theorem new_ln {n m a : Nat} : (Tb.new n m).ln a = [] := getD_replicate
theorem new_ti {n m a : Nat} : (Tb.new n m).ti a = 0 := getD_replicate
theorem new_ro {n m a : Nat} : (Tb.new n m).ro a = 0 := getD_replicate
theorem Wf.new {n m : Nat} (s : (Tb.new n m).Sz) : (Tb.new n m).Wf := by
  refine ⟨s, fun b k h => ?_, fun k b h => ?_, fun k => ?_, fun k b h => ?_, fun k h => ?_, fun b k h => ?_⟩
  · rw [new_wa] at h; cases h
  · rw [new_ln] at h; cases h
  · rw [new_ln]; exact List.nodup_nil
  · rw [new_ow] at h; cases h
  · rw [new_ln] at h; exact absurd rfl h
  · rw [new_wa] at h; cases h
end Tb
end AL

namespace AL
open PySem PySem.Spec PyProof.Rows L2
/-! # the promises of a table's methods -/
abbrev tbC (K : PySem.W.Frag) : Addr := He.ga K "Table"
def eW (K : PySem.W.Frag) (w : Wd) (E : XK) (H : Hp) : Prop := E (.ref (He.ga K w.str)) none H
abbrev TbK (K : PySem.W.Frag) := TbAt (tbC K)
abbrev sp_t_need_agent (K : PySem.W.Frag) : Sp := sp2 fun x y H Q E => ∃ A T a, x = .ref A.p ∧ y = .int a ∧ TbK K H A T ∧ (T.isA a → Q .non H) ∧ (¬ T.isA a → eW K .noAgent E H)
abbrev sp_t_need_lock (K : PySem.W.Frag) : Sp := sp2 fun x y H Q E => ∃ A T a, x = .ref A.p ∧ y = .int a ∧ TbK K H A T ∧ (T.isL a → Q .non H) ∧ (¬ T.isL a → eW K .noLock E H)
abbrev sp_t_need_both (K : PySem.W.Frag) : Sp := sp3 fun x y z H Q E => ∃ A T a l, x = .ref A.p ∧ y = .int a ∧ z = .int l ∧ TbK K H A T ∧ (T.fault a l = none → Q .non H) ∧ (∀ w, T.fault a l = some w → eW K w E H)
abbrev sp_t_need_free_to (K : PySem.W.Frag) : Sp := sp2 fun x y H Q E => ∃ A T, ∃ a : Nat, x = .ref A.p ∧ y = .int (a : Int) ∧ TbK K H A T ∧ a < T.n ∧ (T.wa a = none → Q .non H) ∧ (T.wa a ≠ none → eW K .waits E H)
abbrev sp_t_take (K : PySem.W.Frag) : Sp := sp3 fun x y z H Q E => ∃ A T, ∃ a l : Nat, x = .ref A.p ∧ y = .int (a : Int) ∧ z = .int (l : Int) ∧ TbK K H A T ∧ l < T.m ∧ ∀ H', TbK K H' A (T.take a l) → Fr A.foot H H' → Q .non H'
abbrev sp_t_ask (K : PySem.W.Frag) : Sp := sp3 fun x y z H Q E => ∃ A T a l, x = .ref A.p ∧ y = .int a ∧ z = .int l ∧ TbK K H A T ∧ T.Wf ∧ (∀ w T', T.askR a l = (.error w, T') → eW K w E H) ∧
  ∀ b T', T.askR a l = (.ok b, T') → ∀ H', TbK K H' A T' → Fr A.foot H H' → Q (.bl b) H'
abbrev sp_t_pass_on (K : PySem.W.Frag) : Sp := sp2 fun x z H Q E => ∃ A T, ∃ l : Nat, x = .ref A.p ∧ z = .int (l : Int) ∧ TbK K H A T ∧ l < T.m ∧ (∀ a ∈ T.ln l, a < T.n) ∧ ∀ H', TbK K H' A (T.pass l) → Fr A.foot H H' → Q (oV (T.heir l)) H'
abbrev sp_t_give (K : PySem.W.Frag) : Sp := sp3 fun x y z H Q E => ∃ A T a l, x = .ref A.p ∧ y = .int a ∧ z = .int l ∧ TbK K H A T ∧ T.Wf ∧ (∀ w T', T.giveR a l = (.error w, T') → eW K w E H) ∧
  ∀ b T', T.giveR a l = (.ok b, T') → ∀ H', TbK K H' A T' → Fr A.foot H H' → Q (oV b) H'
def oD : Option Nat → PyData
  | none => .none
  | some n => .int (n : Int)
def gone (rs : List (Nat × Option Nat)) : List PyData := rs.map fun r => .tuple [.int (r.1 : Int), oD r.2]
abbrev sp_t_leave (K : PySem.W.Frag) : Sp := sp2 fun x y H Q E => ∃ A T a, x = .ref A.p ∧ y = .int a ∧ TbK K H A T ∧ T.Wf ∧ (∀ w T', T.leaveR a = (.error w, T') → eW K w E H) ∧
  ∀ b T', T.leaveR a = (.ok b, T') → ∀ p H', TbK K H' A T' → Fr A.foot H H' → H p = none → LsAt H' p (gone b) → Q (.ref p) H'
abbrev sp_t_waits (K : PySem.W.Frag) : Sp := sp2 fun x y H Q E => ∃ A T a, x = .ref A.p ∧ y = .int a ∧ TbK K H A T ∧ (T.isA a → Q (oV (T.wa a.toNat)) H) ∧ (¬ T.isA a → eW K .noAgent E H)
abbrev sp_t_held (K : PySem.W.Frag) : Sp := sp2 fun x y H Q E => ∃ A T a, x = .ref A.p ∧ y = .int a ∧ TbK K H A T ∧ (T.isA a → ∀ p H', H p = none → H' p = some (.lst ((T.held a.toNat).map nV)) → Fr No H H' → Q (.ref p) H') ∧ (¬ T.isA a → eW K .noAgent E H)
abbrev sp_t_wait_number (K : PySem.W.Frag) : Sp := sp2 fun x y H Q E => ∃ A T a, x = .ref A.p ∧ y = .int a ∧ TbK K H A T ∧ (T.isA a → Q (.int (T.ro a.toNat : Int)) H) ∧ (¬ T.isA a → eW K .noAgent E H)
abbrev sp_t_holder (K : PySem.W.Frag) : Sp := sp2 fun x y H Q E => ∃ A T a, x = .ref A.p ∧ y = .int a ∧ TbK K H A T ∧ (T.isL a → Q (oV (T.ow a.toNat)) H) ∧ (¬ T.isL a → eW K .noLock E H)
abbrev sp_t_queue (K : PySem.W.Frag) : Sp := sp2 fun x y H Q E => ∃ A T a, x = .ref A.p ∧ y = .int a ∧ TbK K H A T ∧ (T.isL a → ∀ p H', H p = none → H' p = some (.lst ((T.ln a.toNat).map nV)) → Fr No H H' → Q (.ref p) H') ∧ (¬ T.isL a → eW K .noLock E H)
abbrev sp_t_hold_number (K : PySem.W.Frag) : Sp := sp2 fun x y H Q E => ∃ A T a, x = .ref A.p ∧ y = .int a ∧ TbK K H A T ∧ (T.isL a → Q (.int (T.ti a.toNat : Int)) H) ∧ (¬ T.isL a → eW K .noLock E H)
abbrev sp_t_agents (K : PySem.W.Frag) : Sp := sp1 fun x H Q E => ∃ A T, x = .ref A.p ∧ TbK K H A T ∧ Q (.int (T.n : Int)) H
abbrev sp_t_locks (K : PySem.W.Frag) : Sp := sp1 fun x H Q E => ∃ A T, x = .ref A.p ∧ TbK K H A T ∧ Q (.int (T.m : Int)) H
def TbOk (a l : Int) : Prop := (1 ≤ a ∧ a ≤ 8) ∧ 1 ≤ l ∧ l ≤ 12
abbrev sp_t_init (K : PySem.W.Frag) : Sp := sp3 fun x y z H Q E => ∃ p dx a l, x = .ref p ∧ y = .int a ∧ z = .int l ∧ H p = some (.ins (tbC K) dx []) ∧ (¬ TbOk a l → eW K .noTable E H) ∧
  (TbOk a l → ∀ A H', A.p = p → TbK K H' A (Tb.new a.toNat l.toNat) → Fr (fun b => b = p) H H' → (∀ b, A.has b → b ≠ p → H b = none) → Q .non H')
abbrev sp_t_copied (K : PySem.W.Frag) : Sp := sp1 fun x H Q E => ∃ A T, x = .ref A.p ∧ TbK K H A T ∧ ∀ B H', TbK K H' B T → Fr No H H' → (∀ b, B.has b → H b = none) → Q (.ref B.p) H'

section
variable {K : PySem.W.Frag} {H H' : Hp} {A : TA} {T : Tb} {Q : VK}
theorem td_o (H : Hp) (o : Option Nat) : Td H (oV o) (oD o) := by
  cases o with
  | none => exact .non
  | some n => exact .int _
theorem td_two {p : Addr} {v u : V} {d e : PyData} (h : H p = some (.tup [v, u])) (h1 : Td H v d) (h2 : Td H u e) : Td H (.ref p) (.tuple [d, e]) := .tup h (.cons h1 (.cons h2 .nil))
theorem gone_snoc {rs : List (Nat × Option Nat)} {l : Nat} {o : Option Nat} : gone (rs ++ [(l, o)]) = gone rs ++ [.tuple [.int (l : Int), oD o]] := by
  unfold gone
  rw [List.map_append]
  rfl
theorem foot_old (h : TbK K H A T) {b : Addr} (hb : A.foot b) : H b ≠ none := by
  obtain ⟨o, e, _⟩ := h.old (TA.has_foot hb)
  rw [e]
  simp
theorem fresh_foot (h : TbK K H A T) {p : Addr} (hp : H p = none) : ¬ A.foot p := fun z => foot_old h z hp
theorem fresh_has (h : TbK K H A T) {p : Addr} (hp : H p = none) : ¬ A.has p := fun z => by
  obtain ⟨o, e, _⟩ := h.old z
  rw [hp] at e
  cases e
end
/-- what is given so far by one that leaves -/
structure LvW (K : PySem.W.Frag) (A : TA) (T : Tb) (H : Hp) (D : Addr) (ls : List Nat) (H' : Hp) : Prop where
  new : H D = none
  fr : Fr A.foot H H'
  at_ : LsAt H' D (gone (Tb.passAll ls T).1)
  tb : TbK K H' A (Tb.passAll ls T).2

/-- five lists are laid into an instance, one behind another -/
theorem five {C : Addr} {K : PySem.W.Frag} {T : Tb} {p dx ow li ti wa ro : Addr} {ls : List Addr} {c : Nat → List V} {H0 H1 H2 H3 H4 H5 H6 H7 H8 H9 H10 : Hp} {fs : List (Str × V)} (s : T.Sz)
    (hp : H0 p = some (.ins C dx fs)) (hf : putF "rounds" (.ref ro) (putF "wants" (.ref wa) (putF "times" (.ref ti) (putF "lines" (.ref li) (putF "owners" (.ref ow) fs)))) = (TA.mk p dx ow li ti wa ro ls).fs)
    (f0 : Fr No H0 H1) (n0 : H0 ow = none) (e0 : H1 ow = some (.lst (T.own.map oV)))
    (g1 : Fr (fun b => b = p) H1 H2)
    (w : LmW H2 li c ls H3) (hl : ls.length = T.lin.length) (hc : ∀ i, i < T.lin.length → c i = (T.ln i).map nV)
    (g2 : Fr (fun b => b = p) H3 H4)
    (f4 : Fr No H4 H5) (n4 : H4 ti = none) (e4 : H5 ti = some (.lst (T.tim.map nV)))
    (g3 : Fr (fun b => b = p) H5 H6)
    (f6 : Fr No H6 H7) (n6 : H6 wa = none) (e6 : H7 wa = some (.lst (T.wan.map oV)))
    (g4 : Fr (fun b => b = p) H7 H8)
    (f8 : Fr No H8 H9) (n8 : H8 ro = none) (e8 : H9 ro = some (.lst (T.rou.map nV)))
    (g5 : Fr (fun b => b = p) H9 H10) (e10 : H10 p = some (.ins C dx (TA.mk p dx ow li ti wa ro ls).fs)) :
    TbAt C H10 (TA.mk p dx ow li ti wa ro ls) T ∧ Fr (fun b => b = p) H0 H10 ∧ ∀ b, (TA.mk p dx ow li ti wa ro ls).has b → b ≠ p → H0 b = none := by
  have a1 : Fr (fun b => b = p) H0 H2 := f0.up.trans g1
  have a2 : Fr (fun b => b = p) H0 H4 := a1.trans (w.fr.up.trans g2)
  have a3 : Fr (fun b => b = p) H0 H6 := a2.trans (f4.up.trans g3)
  have a4 : Fr (fun b => b = p) H0 H8 := a3.trans (f6.up.trans g4)
  have np : ∀ {x : Addr}, H0 x = none → x ≠ p := fun hx => ne_fresh hp hx
  have n2 : H0 li = none := a1.fresh w.new
  have n4' : H0 ti = none := a2.fresh n4
  have n6' : H0 wa = none := a3.fresh n6
  have n8' : H0 ro = none := a4.fresh n8
  have nls : ∀ b ∈ ls, H0 b = none ∧ H2 b = none := fun b hb => by
    obtain ⟨i, hi, e⟩ := List.mem_iff_getElem.mp hb
    have := (w.each i b (by rw [List.getElem?_eq_getElem hi, e])).2
    exact ⟨a1.fresh this, this⟩
  have ow2 : H2 ow = some (.lst (T.own.map oV)) := g1.old _ _ e0 (np n0)
  have ow4 : H4 ow = some (.lst (T.own.map oV)) := g2.old _ _ (w.fr.lst ow2) (np n0)
  have ow6 := g3.old _ _ (f4.lst ow4) (np n0)
  have ow8 := g4.old _ _ (f6.lst ow6) (np n0)
  have ow10 := g5.old _ _ (f8.lst ow8) (np n0)
  have li4 := g2.old _ _ w.at_ (np n2)
  have li6 := g3.old _ _ (f4.lst li4) (np n2)
  have li8 := g4.old _ _ (f6.lst li6) (np n2)
  have li10 := g5.old _ _ (f8.lst li8) (np n2)
  have ti6 := g3.old _ _ e4 (np n4')
  have ti8 := g4.old _ _ (f6.lst ti6) (np n4')
  have ti10 := g5.old _ _ (f8.lst ti8) (np n4')
  have wa8 := g4.old _ _ e6 (np n6')
  have wa10 := g5.old _ _ (f8.lst wa8) (np n6')
  have ro10 := g5.old _ _ e8 (np n8')
  have ls4 : ∀ (i : Nat) (b : Addr), ls[i]? = some b → H4 b = some (.lst (c i)) := fun i b e => g2.old _ _ (w.each i b e).1 (np (nls b (List.mem_of_getElem? e)).1)
  have ls6 : ∀ (i : Nat) (b : Addr), ls[i]? = some b → H6 b = some (.lst (c i)) := fun i b e => g3.old _ _ (f4.lst (ls4 i b e)) (np (nls b (List.mem_of_getElem? e)).1)
  have ls8 : ∀ (i : Nat) (b : Addr), ls[i]? = some b → H8 b = some (.lst (c i)) := fun i b e => g4.old _ _ (f6.lst (ls6 i b e)) (np (nls b (List.mem_of_getElem? e)).1)
  have ls10 : ∀ (i : Nat) (b : Addr), ls[i]? = some b → H10 b = some (.lst (c i)) := fun i b e => g5.old _ _ (f8.lst (ls8 i b e)) (np (nls b (List.mem_of_getElem? e)).1)
  have at_ls : ∀ {x : Addr} {Hk : Hp}, (∀ (i : Nat) (b : Addr), ls[i]? = some b → Hk b = some (.lst (c i))) → Hk x = none → x ∉ ls := fun hk hx z => by
    obtain ⟨i, hi, e⟩ := List.mem_iff_getElem.mp z
    have := hk i _ (by rw [List.getElem?_eq_getElem hi, e])
    rw [hx] at this
    cases this
  have ndl := w.nd
  rw [List.nodup_cons] at ndl
  refine ⟨⟨e10, ow10, li10, ti10, wa10, ro10, fun i b e => ?_, hl, ?_, s⟩, (a4.trans f8.up).trans g5, fun b hb hbp => ?_⟩
  · have hi : i < T.lin.length := by rw [← hl]; exact (List.getElem?_eq_some_iff.mp e).1
    rw [ls10 i b e, hc i hi]
  · simp only [List.nodup_cons, List.mem_cons, not_or]
    refine ⟨⟨(np n2).symm, (np n0).symm, (np n4').symm, (np n6').symm, (np n8').symm, fun z => np (nls _ z).1 rfl⟩, ⟨ne_fresh ow2 w.new, (ne_fresh li4 n4).symm, (ne_fresh li6 n6).symm, (ne_fresh li8 n8).symm, ndl.1⟩, ⟨(ne_fresh ow4 n4).symm, (ne_fresh ow6 n6).symm, (ne_fresh ow8 n8).symm, fun z => ?_⟩, ⟨(ne_fresh ti6 n6).symm, (ne_fresh ti8 n8).symm, at_ls ls4 n4⟩, ⟨(ne_fresh wa8 n8).symm, at_ls ls6 n6⟩, at_ls ls8 n8, ndl.2⟩
    have := (nls _ z).2
    rw [ow2] at this
    cases this
  · unfold TA.has at hb
    simp only [List.mem_cons] at hb
    rcases hb with e | e | e | e | e | e | e
    · exact absurd e hbp
    · rw [e]; exact n2
    · rw [e]; exact n0
    · rw [e]; exact n4'
    · rw [e]; exact n6'
    · rw [e]; exact n8'
    · exact (nls b e).1
theorem fs_nil {p dx ow li ti wa ro : Addr} {ls : List Addr} : putF "rounds" (.ref ro) (putF "wants" (.ref wa) (putF "times" (.ref ti) (putF "lines" (.ref li) (putF "owners" (.ref ow) [])))) = (TA.mk p dx ow li ti wa ro ls).fs := by rfl
theorem fs_old {p dx ow li ti wa ro : Addr} {ls : List Addr} {B : TA} : putF "rounds" (.ref ro) (putF "wants" (.ref wa) (putF "times" (.ref ti) (putF "lines" (.ref li) (putF "owners" (.ref ow) B.fs)))) = (TA.mk p dx ow li ti wa ro ls).fs := by rfl
end AL

namespace AL
open PySem PySem.Spec PyProof.Rows L2
/-! # the law's own things: the state of drawing, the table as a dict -/
/-! ### d.update(e) -/
def rUpdD : V → List V → Hp → VK → Prop := fun x vs H Q => ∃ (a b : Addr) (kvs more : List (Key × V)), x = .ref a ∧ vs = [.ref b] ∧ H a = some (.dK kvs) ∧ H b = some (.dK more) ∧ a ≠ b ∧ kvs.length + more.length ≤ 2000 ∧ Q .non (upd H a (.dK (mergeK kvs more)))
theorem mt_update {X : Cx} : MtR X "dict.update" rUpdD := by
  intro pins s σ H x vs v us Q I rx rv h
  obtain ⟨a, b, kvs, more, rfl, rfl, ea, eb, ne, hl, q⟩ := h
  cases rx
  cases rv with
  | cons r rr =>
    cases rr
    cases r
    obtain ⟨z, hd, ks, rel, dd⟩ := dk_of I.hok ea
    obtain ⟨z2, hd2, ks2, rel2, dd2⟩ := dk_of I.hok eb
    have hle : kvs.length + more.length ≤ sizeLine := Nat.le_of_lt (small2000 hl)
    refine call_meetsIn PySem.F.slot_dict_update dd.typeIs PySem.F.entry_dict_update (PySem.F.args_dict_update_2 _ _) (meets_dict_update (mixKind X.prog X.w) a b ne hd2) ⟨ks, ks2, dd, dd2, by rw [← rel.length, ← rel2.length]; exact hle, fun h' dd' _ hs => ?_⟩
    have he : ∃ q, h'.get? a = some q := let ⟨q, _, _, hq, _⟩ := dd'; ⟨q, hq⟩
    exact ⟨.non, _, d_write (t' := s.toks) I (by rw [ea]; exact True.intro) hs he (dk_new (Nat.le_trans (length_mergeK more kvs) hle) hd (KV.merge rel2 rel) dd'), rfl, q⟩
section
variable {X : Cx} {K : PySem.W.Frag} {o e : Expr} {to te : TE} {apos cpos : Pos}
theorem k_update (hK : X.K = K) (ho : PE X o to) (he : PE X e te) (hbase : attributeBase o "update" X.env (eval o X.env) = eval o X.env := by rfl) (hline : (apos.endLine == cpos.line) = true := by rfl)
    (h : PE X (.Call (.Attribute o "update" apos) [e] [] cpos) (tBM X.K "dict" rUpdD to (tCons te tNil)) := by exact pe_bm PySem.F.plainAttrs_dict PySem.F.slot_dict_update PySem.F.type_dict_update mt_update ho (pa_cons he pa_nil)) :
    PE X (.Call (.Attribute o "update" apos) [e] [] cpos) (tBM K "dict" rUpdD to (tCons te tNil)) := hK ▸ h
end

/-! ### the state of drawing -/
/-- the script stands known, or apart from S -/
def ScF (K : PySem.W.Frag) (sc : Addr) (ns : List Int) (S : Addr → Prop) : Prop := (∀ H : Hp, SqL K H sc (ns.map V.int)) ∨ ¬ S sc
structure StAt (K : PySem.W.Frag) (H : Hp) (st sc : Addr) (ns : List Int) : Prop where
  ex : ∃ i m l : Int, H st = some (.lst [.ref sc, .int i, .int m, .int l]) ∧ 0 ≤ i ∧ 0 ≤ l
  sq : SqL K H sc (ns.map V.int)
  len : ns.length ≤ 63
section
variable {K : PySem.W.Frag} {S : Addr → Prop} {H H' : Hp} {st sc : Addr} {ns : List Int} {Q : VK} {σ : L2.St}
theorem sqL_fr {a : Addr} {xs : List V} (h : SqL K H a xs) (f : Fr S H H') (n : ¬ S a) : SqL K H' a xs := by
  rcases h with (h | ⟨o, h⟩) | h
  · exact .inl (.inl (f.old _ _ h n))
  · exact .inl (.inr ⟨o, f.old _ _ h n⟩)
  · exact .inr h
theorem StAt.fr (h : StAt K H st sc ns) (f : Fr S H H') (n1 : ¬ S st) (n2 : ScF K sc ns S) : StAt K H' st sc ns := by
  obtain ⟨i, m, l, h1, h2, h3⟩ := h.ex
  exact ⟨⟨i, m, l, f.old _ _ h1 n1, h2, h3⟩, n2.elim (fun k => k H') (fun k => sqL_fr h.sq f k), h.len⟩
theorem ScF.no : ScF K sc ns No := .inr fun z => z
theorem StAt.fr0 (h : StAt K H st sc ns) (f : Fr No H H') : StAt K H' st sc ns := h.fr f (fun z => z) .no
theorem StAt.lst (h : StAt K H st sc ns) : ∃ xs, H st = Option.some (.lst xs) := by
  obtain ⟨i, m, l, h1, _⟩ := h.ex
  exact ⟨_, h1⟩
theorem StAt.some (h : StAt K H st sc ns) : H st ≠ none := by
  obtain ⟨xs, h1⟩ := h.lst
  rw [h1]
  simp
end
abbrev Only1 (a : Addr) : Addr → Prop := fun b => b = a
abbrev sp_Lstart (K : PySem.W.Frag) : Sp := sp1 fun x H Q E => ∃ sc, ∃ ns : List Int, x = .ref sc ∧ SqL K H sc (ns.map V.int) ∧ ns.length ≤ 63 ∧ ∀ st H', H st = none → StAt K H' st sc ns → Fr No H H' → Q (.ref st) H'
abbrev sp_Ldrawn (K : PySem.W.Frag) : Sp := sp2 fun x y H Q E => ∃ st sc ns, ∃ many : Int, x = .ref st ∧ y = .int many ∧ StAt K H st sc ns ∧ 0 < many ∧ many < 2 ^ 200 ∧ ScF K sc ns (Only1 st) ∧ ∀ (r : Nat) H', (r : Int) < many → StAt K H' st sc ns → Fr (Only1 st) H H' → Q (.int (r : Int)) H'

/-! ### the table as a dict -/
structure LA where
  d : Addr
  ow : Addr
  li : Addr
  ti : Addr
  wa : Addr
  ro : Addr
  bad : Addr → Prop
def LA.kvs (D : LA) : List (Key × V) := [(.inr "owners", .ref D.ow), (.inr "lines", .ref D.li), (.inr "times", .ref D.ti), (.inr "wants", .ref D.wa), (.inr "rounds", .ref D.ro)]
def LA.foot (D : LA) : Addr → Prop := fun b => b ∈ [D.ow, D.li, D.ti, D.wa, D.ro]
def LA.has (D : LA) : Addr → Prop := fun b => b ∈ [D.d, D.ow, D.li, D.ti, D.wa, D.ro]
structure LdAt (H : Hp) (D : LA) (T : Tb) : Prop where
  dic : H D.d = some (.dK D.kvs)
  own : H D.ow = some (.lst (T.own.map oV))
  tim : H D.ti = some (.lst (T.tim.map nV))
  wan : H D.wa = some (.lst (T.wan.map oV))
  rou : H D.ro = some (.lst (T.rou.map nV))
  lin : ∃ as : List Addr, H D.li = some (.lst (as.map V.ref)) ∧ as.length = T.lin.length ∧ ∀ i a, as[i]? = some a → H a = some (.lst ((T.ln i).map nV)) ∧ ¬ D.bad a
  nd : [D.d, D.ow, D.li, D.ti, D.wa, D.ro].Nodup
  old : ∀ b, D.bad b → H b ≠ none
  own_bad : ∀ b, D.has b → D.bad b
  sz : T.Sz
section
variable {K : PySem.W.Frag} {S : Addr → Prop} {H H' : Hp} {D : LA} {T : Tb} {Q : VK} {QH : Hp → Prop} {σ : L2.St} {td ty : TE}
theorem LA.has_foot {b : Addr} (h : D.foot b) : D.has b := List.mem_cons_of_mem _ h
theorem LdAt.fr (h : LdAt H D T) (f : Fr S H H') (h1 : ∀ b, S b → D.bad b) (h2 : ∀ b, D.has b → ¬ S b) : LdAt H' D T := by
  have m : ∀ b o, H b = some o → D.has b → H' b = some o := fun b o e hb => f.old b o e (h2 b hb)
  obtain ⟨as, a1, a2, a3⟩ := h.lin
  refine ⟨m _ _ h.dic ?_, m _ _ h.own ?_, m _ _ h.tim ?_, m _ _ h.wan ?_, m _ _ h.rou ?_, ⟨as, m _ _ a1 ?_, a2, fun i a e => ⟨f.old _ _ (a3 i a e).1 (fun z => (a3 i a e).2 (h1 a z)), (a3 i a e).2⟩⟩, h.nd, fun b hb z => h.old b hb (f.thr b z), h.own_bad, h.sz⟩
  all_goals simp [LA.has]
theorem LdAt.fr0 (h : LdAt H D T) (f : Fr No H H') : LdAt H' D T := h.fr f (fun _ z => z.elim) fun _ _ z => z
theorem LdAt.has_old (h : LdAt H D T) {b : Addr} (hb : D.has b) : ∃ o, H b = some o ∧ ∀ xs, o ≠ .tup xs := by
  unfold LA.has at hb
  simp only [List.mem_cons, List.not_mem_nil, or_false] at hb
  obtain ⟨as, a1, _⟩ := h.lin
  rcases hb with e | e | e | e | e | e
  · rw [e]; exact ⟨_, h.dic, fun xs z => by cases z⟩
  · rw [e]; exact ⟨_, h.own, fun xs z => by cases z⟩
  · rw [e]; exact ⟨_, a1, fun xs z => by cases z⟩
  · rw [e]; exact ⟨_, h.tim, fun xs z => by cases z⟩
  · rw [e]; exact ⟨_, h.wan, fun xs z => by cases z⟩
  · rw [e]; exact ⟨_, h.rou, fun xs z => by cases z⟩
theorem LdAt.put (h : LdAt H D T) {b : Addr} {u : HO} (hb : D.foot b) : Fr D.foot H (upd H b u) := by
  obtain ⟨o, e, nt⟩ := h.has_old (LA.has_foot hb)
  exact (Fr.put e nt).mono fun c z => by rw [z]; exact hb
theorem LdAt.fresh (h : LdAt H D T) {a : Addr} (ha : H a = none) : ¬ D.bad a := fun z => h.old a z ha
/-- the inequalities -/
theorem LdAt.ne (h : LdAt H D T) : (D.d ≠ D.ow ∧ D.d ≠ D.li ∧ D.d ≠ D.ti ∧ D.d ≠ D.wa ∧ D.d ≠ D.ro) ∧ (D.ow ≠ D.li ∧ D.ow ≠ D.ti ∧ D.ow ≠ D.wa ∧ D.ow ≠ D.ro) ∧ (D.li ≠ D.ti ∧ D.li ≠ D.wa ∧ D.li ≠ D.ro) ∧ (D.ti ≠ D.wa ∧ D.ti ≠ D.ro) ∧ D.wa ≠ D.ro := by
  have nd := h.nd
  simp only [List.nodup_cons, List.mem_cons, not_or, List.not_mem_nil, or_false, not_false_eq_true, true_and, List.nodup_nil, and_true] at nd
  obtain ⟨⟨p1, p2, p3, p4, p5⟩, ⟨l1, l2, l3, l4⟩, ⟨o1, o2, o3⟩, ⟨t1, t2⟩, w1⟩ := nd
  exact ⟨⟨p1, p2, p3, p4, p5⟩, ⟨l1, l2, l3, l4⟩, ⟨o1, o2, o3⟩, ⟨t1, t2⟩, w1⟩
/-- a list of the five is written anew -/
theorem LdAt.upd1 (h : LdAt H D T) {b : Addr} {u : HO} {T' : Tb} (hb : D.foot b) (e1 : b ≠ D.d) (own : b ≠ D.ow → T'.own = T.own) (own' : b = D.ow → u = .lst (T'.own.map oV)) (tim : b ≠ D.ti → T'.tim = T.tim) (tim' : b = D.ti → u = .lst (T'.tim.map nV))
    (wan : b ≠ D.wa → T'.wan = T.wan) (wan' : b = D.wa → u = .lst (T'.wan.map oV)) (rou : b ≠ D.ro → T'.rou = T.rou) (rou' : b = D.ro → u = .lst (T'.rou.map nV)) (lin : T'.lin = T.lin) (nl : b ≠ D.li) (sz : T'.Sz) : LdAt (upd H b u) D T' := by
  obtain ⟨as, a1, a2, a3⟩ := h.lin
  refine ⟨(upd_ne e1.symm).trans h.dic, ?_, ?_, ?_, ?_, ⟨as, (upd_ne nl.symm).trans a1, by rw [lin]; exact a2, fun i a e => ⟨?_, (a3 i a e).2⟩⟩, h.nd, fun c hc z => ?_, h.own_bad, sz⟩
  · by_cases q : b = D.ow
    · rw [q, upd_same, own' q]
    · rw [upd_ne (fun z => q z.symm), own q]; exact h.own
  · by_cases q : b = D.ti
    · rw [q, upd_same, tim' q]
    · rw [upd_ne (fun z => q z.symm), tim q]; exact h.tim
  · by_cases q : b = D.wa
    · rw [q, upd_same, wan' q]
    · rw [upd_ne (fun z => q z.symm), wan q]; exact h.wan
  · by_cases q : b = D.ro
    · rw [q, upd_same, rou' q]
    · rw [upd_ne (fun z => q z.symm), rou q]; exact h.rou
  · have nb : a ≠ b := fun z => (a3 i a e).2 (h.own_bad a (by rw [z]; exact LA.has_foot hb))
    rw [upd_ne nb]
    have : T'.ln i = T.ln i := by unfold Tb.ln; rw [lin]
    rw [this]
    exact (a3 i a e).1
  · by_cases q : c = b
    · rw [q, upd_same] at z; cases z
    · rw [upd_ne q] at z; exact h.old c hc z
/-- an item of the dict -/
def DgOn (x y : V) (H : Hp) (Q : VK) : Prop := ∃ a v, x = .ref a ∧ DGet H a y (some v) ∧ Q v H
theorem r_dget (h : td σ H fun x H1 => ty σ H1 fun y H2 => DgOn x y H2 Q) : tDGet td ty σ H Q := h
instance i_dget  : Stp (tDGet td ty σ H Q) (td σ H fun x H1 => ty σ H1 fun y H2 => DgOn x y H2 Q) := ⟨r_dget⟩
theorem r_dgOwn (h : LdAt H D T) (q : Q (.ref D.ow) H) : DgOn (.ref D.d) (.str "owners") H Q := ⟨D.d, _, rfl, DGet.k (k := .inr "owners") h.dic, q⟩
theorem r_dgLin (h : LdAt H D T) (q : Q (.ref D.li) H) : DgOn (.ref D.d) (.str "lines") H Q := ⟨D.d, _, rfl, DGet.k (k := .inr "lines") h.dic, q⟩
theorem r_dgTim (h : LdAt H D T) (q : Q (.ref D.ti) H) : DgOn (.ref D.d) (.str "times") H Q := ⟨D.d, _, rfl, DGet.k (k := .inr "times") h.dic, q⟩
theorem r_dgWan (h : LdAt H D T) (q : Q (.ref D.wa) H) : DgOn (.ref D.d) (.str "wants") H Q := ⟨D.d, _, rfl, DGet.k (k := .inr "wants") h.dic, q⟩
theorem r_dgRou (h : LdAt H D T) (q : Q (.ref D.ro) H) : DgOn (.ref D.d) (.str "rounds") H Q := ⟨D.d, _, rfl, DGet.k (k := .inr "rounds") h.dic, q⟩
theorem l_ixOwn (h : LdAt H D T) {l : Nat} (hl : l < T.m) (q : Q (oV (T.ow l)) H) : rIxL K (.ref D.ow) (.int (l : Int)) H Q := r_ixl h.own (map_at hl) q
theorem l_ixTim (h : LdAt H D T) {l : Nat} (hl : l < T.m) (q : Q (.int (T.ti l : Int)) H) : rIxL K (.ref D.ti) (.int (l : Int)) H Q := r_ixl h.tim (map_at (f := nV) (by rw [h.sz.ti]; exact hl)) q
theorem l_ixWan (h : LdAt H D T) {l : Nat} (hl : l < T.n) (q : Q (oV (T.wa l)) H) : rIxL K (.ref D.wa) (.int (l : Int)) H Q := r_ixl h.wan (map_at hl) q
theorem l_ixRou (h : LdAt H D T) {l : Nat} (hl : l < T.n) (q : Q (.int (T.ro l : Int)) H) : rIxL K (.ref D.ro) (.int (l : Int)) H Q := r_ixl h.rou (map_at (f := nV) (by rw [h.sz.ro]; exact hl)) q
theorem l_ixLin (h : LdAt H D T) {l : Nat} (hl : l < T.m) (q : ∀ a, H a = some (.lst ((T.ln l).map nV)) → ¬ D.bad a → Q (.ref a) H) : rIxL K (.ref D.li) (.int (l : Int)) H Q := by
  obtain ⟨as, a1, a2, a3⟩ := h.lin
  have hl' : l < as.length := by rw [a2, h.sz.li]; exact hl
  have e := List.getElem?_eq_getElem hl'
  exact r_ixl a1 (by rw [List.getElem?_map, e]; rfl) (q _ (a3 _ _ e).1 (a3 _ _ e).2)
theorem l_lenWan (h : LdAt H D T) (q : Q (.int (T.n : Int)) H) : rLenQ K [V.ref D.wa] H Q := ⟨D.wa, _, rfl, .inl (SqL.of h.wan), by rw [List.length_map]; exact q⟩
theorem l_lenOwn (h : LdAt H D T) (q : Q (.int (T.m : Int)) H) : rLenQ K [V.ref D.ow] H Q := ⟨D.ow, _, rfl, .inl (SqL.of h.own), by rw [List.length_map]; exact q⟩
theorem l_setOwn (h : LdAt H D T) {l : Nat} (hl : l < T.m) (o : Option Nat) (q : ∀ H', LdAt H' D { T with own := T.own.set l o } → Fr D.foot H H' → QH H') : rSetL (.ref D.ow) (.int (l : Int)) (oV o) H QH := by
  obtain ⟨⟨p1, p2, p3, p4, p5⟩, ⟨l1, l2, l3, l4⟩, ⟨o1, o2, o3⟩, ⟨t1, t2⟩, w1⟩ := h.ne
  have hb : D.foot D.ow := by simp [LA.foot]
  refine r_setl h.own (by rw [List.length_map]; exact hl) (q _ ?_ (h.put hb))
  exact h.upd1 hb p1.symm (fun z => absurd rfl z) (fun _ => by rw [map_set]) (fun _ => rfl) (fun z => absurd z l2) (fun _ => rfl) (fun z => absurd z l3) (fun _ => rfl) (fun z => absurd z l4) rfl l1 (h.sz.congr rfl (by simp [Tb.m]) rfl rfl rfl)
theorem l_setTim (h : LdAt H D T) {l : Nat} (hl : l < T.m) (o : Nat) (q : ∀ H', LdAt H' D { T with tim := T.tim.set l o } → Fr D.foot H H' → QH H') : rSetL (.ref D.ti) (.int (l : Int)) (nV o) H QH := by
  obtain ⟨⟨p1, p2, p3, p4, p5⟩, ⟨l1, l2, l3, l4⟩, ⟨o1, o2, o3⟩, ⟨t1, t2⟩, w1⟩ := h.ne
  have hb : D.foot D.ti := by simp [LA.foot]
  refine r_setl h.tim (by rw [List.length_map, h.sz.ti]; exact hl) (q _ ?_ (h.put hb))
  exact h.upd1 hb p3.symm (fun _ => rfl) (fun z => absurd z.symm l2) (fun z => absurd rfl z) (fun _ => by rw [map_set]) (fun _ => rfl) (fun z => absurd z t1) (fun _ => rfl) (fun z => absurd z t2) rfl o1.symm (h.sz.congr rfl rfl rfl (by simp) rfl)
theorem l_setWan (h : LdAt H D T) {l : Nat} (hl : l < T.n) (o : Option Nat) (q : ∀ H', LdAt H' D { T with wan := T.wan.set l o } → Fr D.foot H H' → QH H') : rSetL (.ref D.wa) (.int (l : Int)) (oV o) H QH := by
  obtain ⟨⟨p1, p2, p3, p4, p5⟩, ⟨l1, l2, l3, l4⟩, ⟨o1, o2, o3⟩, ⟨t1, t2⟩, w1⟩ := h.ne
  have hb : D.foot D.wa := by simp [LA.foot]
  refine r_setl h.wan (by rw [List.length_map]; exact hl) (q _ ?_ (h.put hb))
  exact h.upd1 hb p4.symm (fun _ => rfl) (fun z => absurd z.symm l3) (fun _ => rfl) (fun z => absurd z.symm t1) (fun z => absurd rfl z) (fun _ => by rw [map_set]) (fun _ => rfl) (fun z => absurd z w1) rfl o2.symm (h.sz.congr (by simp [Tb.n]) rfl rfl rfl rfl)
theorem l_setRou (h : LdAt H D T) {l : Nat} (hl : l < T.n) (o : Nat) (q : ∀ H', LdAt H' D { T with rou := T.rou.set l o } → Fr D.foot H H' → QH H') : rSetL (.ref D.ro) (.int (l : Int)) (nV o) H QH := by
  obtain ⟨⟨p1, p2, p3, p4, p5⟩, ⟨l1, l2, l3, l4⟩, ⟨o1, o2, o3⟩, ⟨t1, t2⟩, w1⟩ := h.ne
  have hb : D.foot D.ro := by simp [LA.foot]
  refine r_setl h.rou (by rw [List.length_map, h.sz.ro]; exact hl) (q _ ?_ (h.put hb))
  exact h.upd1 hb p5.symm (fun _ => rfl) (fun z => absurd z.symm l4) (fun _ => rfl) (fun z => absurd z.symm t2) (fun _ => rfl) (fun z => absurd z.symm w1) (fun z => absurd rfl z) (fun _ => by rw [map_set]) rfl o3.symm (h.sz.congr rfl rfl rfl rfl (by simp))
/-- a line is another list -/
theorem l_setLin (h : LdAt H D T) {l : Nat} {a : Addr} {xs : List Nat} (hl : l < T.m) (ha : H a = some (.lst (xs.map nV))) (nb : ¬ D.bad a) (q : ∀ H', LdAt H' D (T.line l xs) → Fr D.foot H H' → QH H') : rSetL (.ref D.li) (.int (l : Int)) (.ref a) H QH := by
  obtain ⟨as, a1, a2, a3⟩ := h.lin
  obtain ⟨⟨p1, p2, p3, p4, p5⟩, ⟨l1, l2, l3, l4⟩, ⟨o1, o2, o3⟩, ⟨t1, t2⟩, w1⟩ := h.ne
  have hb : D.foot D.li := by simp [LA.foot]
  have hl2 : l < T.lin.length := by rw [h.sz.li]; exact hl
  refine r_setl a1 (by rw [List.length_map, a2]; exact hl2) (q _ ?_ (h.put hb))
  have em : (as.map V.ref).set l (V.ref a) = (as.set l a).map V.ref := List.map_set.symm
  rw [em]
  have nli : ∀ {x : Addr}, ¬ D.bad x → x ≠ D.li := fun hx z => hx (h.own_bad _ (by rw [z]; simp [LA.has]))
  refine ⟨(upd_ne p2).trans h.dic, (upd_ne l1).trans h.own, (upd_ne o1.symm).trans h.tim, (upd_ne o2.symm).trans h.wan, (upd_ne o3.symm).trans h.rou, ⟨as.set l a, upd_same, by rw [List.length_set, a2]; unfold Tb.line; simp, fun i b e => ?_⟩, h.nd, fun c hc z => ?_, h.own_bad, h.sz.line⟩
  · rw [List.getElem?_set] at e
    rw [ln_line hl2]
    by_cases q : l = i
    · rw [if_pos q, if_pos (by rw [a2]; exact hl2)] at e
      have eb : a = b := Option.some.inj e
      rw [← eb, if_pos q.symm]
      exact ⟨(upd_ne (nli nb)).trans ha, nb⟩
    · rw [if_neg q] at e
      rw [if_neg (fun z => q z.symm)]
      exact ⟨(upd_ne (nli (a3 i b e).2)).trans (a3 i b e).1, (a3 i b e).2⟩
  · by_cases q : c = D.li
    · rw [q, upd_same] at z; cases z
    · rw [upd_ne q] at z; exact h.old c hc z
end
end AL

namespace AL
open PySem PySem.Spec PyProof.Rows L2
/-! # further readings; the promises of the law's own helpers -/
section
variable {X : Cx} {K : PySem.W.Frag}
/-- an item of a list or a tuple -/
def rIxQ (K : PySem.W.Frag) : R2 := fun x i H Q => rIxL K x i H Q ∨ rIxT K x i H Q
theorem k_ixq (hK : X.K = K) : IxR X (rIxQ K) := by
  subst hK
  intro e1 e2 pins s σ H x y v u Q I rx ry h
  rcases h with h | h
  · exact ix_list e1 e2 pins s σ H x y v u Q I rx ry h
  · exact ix_tup e1 e2 pins s σ H x y v u Q I rx ry h
end
section
variable {K : PySem.W.Frag} {σ : L2.St} {H : Hp} {Q : VK} {D : Ends} {tb : TS} {ta : L2.TA} {tl te td : TE} {j n : Nat} {x v : V} {tt : TT}
/-! ### loops -/
theorem r_forR (hn : n ≤ 2000) (ha : ∀ Q : List V → Hp → Prop, Q [.int (n : Int)] H → ta σ H Q) (Pv : Nat → L2.St → Hp → Prop) (h0 : Pv 0 σ H)
    (hs : ∀ (i : Nat) σ' H', i < n → Pv i σ' H' → tb { D with nx := Pv (i + 1), ct := Pv (i + 1), bk := D.nx } (σ'.set j (some (.int (i : Int)))) H') (hd : ∀ σ' H', Pv n σ' H' → D.nx σ' H') : tFor (iRng1 ta) (gName j) tb D σ H := by
  refine ha _ ⟨(n : Int), rfl, by omega, by omega, ?_⟩
  have en : ((n : Int)).toNat = n := by omega
  rw [en]
  refine for_range (lo := 0) (n := n) Pv h0 (fun i σ' H' hi p => ?_) hd
  have e0 : (0 : Int) + (i : Int) = (i : Int) := Int.zero_add _
  rw [e0]
  exact hs i σ' H' hi p
theorem r_forL {a : Addr} {xs : List V} (ha : ∀ Q : VK, Q (.ref a) H → tl σ H Q) (hx : SqL K H a xs) (Pv : Nat → L2.St → Hp → Prop) (h0 : Pv 0 σ H) (hl : ∀ i σ' H', i ≤ xs.length → Pv i σ' H' → SqL K H' a xs)
    (hs : ∀ i x σ' H', xs[i]? = some x → Pv i σ' H' → tb { D with nx := Pv (i + 1), ct := Pv (i + 1), bk := D.nx } (σ'.set j (some x)) H') (hd : ∀ σ' H', Pv xs.length σ' H' → D.nx σ' H') : tFor (iList K tl) (gName j) tb D σ H :=
  ha _ ⟨a, rfl, ⟨xs, hx⟩, for_list Pv h0 hl hs hd⟩
theorem r_andV (h : te σ H fun x H1 => ∃ c, x = .bl c ∧ if c = true then td σ H1 Q else Q (.bl false) H1) : tAndV te td σ H Q := h
instance i_andV  : Stp (tAndV te td σ H Q) (te σ H fun x H1 => ∃ c, x = .bl c ∧ if c = true then td σ H1 Q else Q (.bl false) H1) := ⟨r_andV⟩
theorem r_orV (h : te σ H fun x H1 => ∃ c, x = .bl c ∧ if c = true then Q (.bl true) H1 else td σ H1 Q) : tOrV te td σ H Q := h
instance i_orV  : Stp (tOrV te td σ H Q) (te σ H fun x H1 => ∃ c, x = .bl c ∧ if c = true then Q (.bl true) H1 else td σ H1 Q) := ⟨r_orV⟩
theorem r_notV (h : te σ H fun x H1 => ∃ c, x = .bl c ∧ Q (.bl (!c)) H1) : tNotV te σ H Q := h
instance i_notV  : Stp (tNotV te σ H Q) (te σ H fun x H1 => ∃ c, x = .bl c ∧ Q (.bl (!c)) H1) := ⟨r_notV⟩
theorem r_Tn {A B : Prop} (h : A) : if (!false) = true then A else B := by rw [Bool.not_false, if_pos rfl]; exact h
instance i_Tn {A B : Prop} : Stp (if (!false) = true then A else B) (A) := ⟨r_Tn⟩
theorem r_Fn {A B : Prop} (h : B) : if (!true) = true then A else B := by rw [Bool.not_true, if_neg Bool.false_ne_true]; exact h
instance i_Fn {A B : Prop} : Stp (if (!true) = true then A else B) (B) := ⟨r_Fn⟩
/-! ### isinstance -/
theorem r_isi {a b : String} (r : Bool) (ty : TyX K H x (.type a)) (h : kitB a b = some r) (q : Q (.bl r) H) : rIsi K [x, .ty b] H Q := ⟨x, .ty b, .type a, .type b, r, rfl, .ty b, ty, kit_ty h, q⟩
theorem r_isi2 {a b c : String} {tp : Addr} (r s t : Bool) (ty : TyX K H x (.type a)) (ht : H tp = some (.tup [.ty b, .ty c])) (h1 : kitB a b = some r) (h2 : kitB a c = some s) (e : (r || s) = t) (q : Q (.bl t) H) : rIsiT K [x, .ref tp] H Q := by
  subst e
  refine ⟨x, tp, _, .type a, [.type b, .type c], r || s, rfl, ht, .cons (.ty b) (.cons (.ty c) .nil), ty, ?_, q⟩
  refine kitAny_cons (kit_ty h1) (fun e => ?_) (fun e => by rw [e]; rfl)
  rw [e, Bool.false_or]
  refine kitAny_cons (kit_ty h2) (fun e => by rw [e]; rfl) (fun e => e)
end
def tyD : PyData → String
  | .none => "NoneType" | .bool _ => "bool" | .int _ => "int" | .str _ => "str" | .list _ => "list" | .tuple _ => "tuple" | .dict _ => "dict"
/-! ### data of tuples and lists -/
mutual
inductive Dd (H : Hp) : V → PyData → Prop
  | non : Dd H .non .none
  | bl (b : Bool) : Dd H (.bl b) (.bool b)
  | int (i : Int) : Dd H (.int i) (.int i)
  | str (x : Str) : Dd H (.str x) (.str x)
  | tup {a : Addr} {xs : List V} {ds : List PyData} : H a = some (.tup xs) → xs.length ≤ 2000 → DdAll H xs ds → Dd H (.ref a) (.tuple ds)
  | lst {a : Addr} {xs : List V} {ds : List PyData} : H a = some (.lst xs) → xs.length ≤ 2000 → DdAll H xs ds → Dd H (.ref a) (.list ds)
inductive DdAll (H : Hp) : List V → List PyData → Prop
  | nil : DdAll H [] []
  | cons {v : V} {vs : List V} {d : PyData} {ds : List PyData} : Dd H v d → DdAll H vs ds → DdAll H (v :: vs) (d :: ds)
end
mutual
theorem Dd.fr {H H' : Hp} (f : Fr No H H') : ∀ {v : V} {d : PyData}, Dd H v d → Dd H' v d
  | _, _, .non => .non
  | _, _, .bl b => .bl b
  | _, _, .int i => .int i
  | _, _, .str x => .str x
  | _, _, .tup h l r => .tup (f.tup _ _ h) l (DdAll.fr f r)
  | _, _, .lst h l r => .lst (f.lst h) l (DdAll.fr f r)
theorem DdAll.fr {H H' : Hp} (f : Fr No H H') : ∀ {vs : List V} {ds : List PyData}, DdAll H vs ds → DdAll H' vs ds
  | _, _, .nil => .nil
  | _, _, .cons h r => .cons (Dd.fr f h) (DdAll.fr f r)
end
theorem DdAll.len {H : Hp} : ∀ {vs : List V} {ds : List PyData}, DdAll H vs ds → vs.length = ds.length
  | _, _, .nil => rfl
  | _, _, .cons _ r => by simp [DdAll.len r]
theorem DdAll.at {H : Hp} : ∀ {vs : List V} {ds : List PyData} {i : Nat}, DdAll H vs ds → i < ds.length → ∃ v d, vs[i]? = some v ∧ ds[i]? = some d ∧ Dd H v d
  | _, _, _, .nil, h => absurd h (Nat.not_lt_zero _)
  | _, _, 0, .cons h _, _ => ⟨_, _, rfl, rfl, h⟩
  | _, _, i + 1, .cons _ r, h => DdAll.at (i := i) r (by simpa using h)
/-- small data: every tuple of it, tracked -/
def Sml (d : PyData) : Prop := ∀ {H : Hp} {v : V}, Td H v d → Dd H v d
theorem Dd.ty {K : PySem.W.Frag} {H : Hp} {v : V} {d : PyData} (h : Dd H v d) : TyX K H v (.type (tyD d)) := by
  cases h with
  | non => exact .base .non
  | bl b => exact .base (.bl b)
  | int i => exact .base (.int i)
  | str x => exact .base (.str x)
  | tup h _ _ => exact .base (.tup h)
  | lst h _ _ => exact .base (.lst h)
theorem depth_at : ∀ {ds : List PyData} {i : Nat} {d : PyData}, ds[i]? = some d → d.depth ≤ PyData.depthAll ds
  | [], _, _, h => by simp at h
  | x :: r, 0, d, h => by
    have : x = d := Option.some.inj h
    rw [this]
    unfold PyData.depthAll
    exact Nat.le_max_left _ _
  | x :: r, i + 1, d, h => by
    have := depth_at (ds := r) (i := i) (d := d) (by simpa using h)
    unfold PyData.depthAll
    exact Nat.le_trans this (Nat.le_max_right _ _)
/-- both tell the same data, of a depth below n -/
abbrev sp_Lsame (n : Nat) : Sp := sp2 fun x y H Q E => ∃ d, Dd H x d ∧ Dd H y d ∧ d.depth < n ∧ ∀ H', Fr No H H' → Q (.bl true) H'
section
variable {K : PySem.W.Frag} {H : Hp} {Q : VK} {x v : V}
theorem dd_o (o : Option Nat) : Dd H (oV o) (oD o) := by
  cases o with
  | none => exact .non
  | some n => exact .int _
theorem td_dd_all (h : ∀ v d, Td H v d → Dd H v d) : ∀ {vs : List V} {ds : List PyData}, TdAll H vs ds → DdAll H vs ds
  | _, _, .nil => .nil
  | _, _, .cons a r => .cons (h _ _ a) (td_dd_all h r)
theorem dd_nats : ∀ xs : List Nat, DdAll H (xs.map nV) (xs.map fun x : Nat => PyData.int (x : Int))
  | [] => .nil
  | x :: r => .cons (.int _) (dd_nats r)
theorem dd_natsL {p : Addr} {xs : List Nat} (h : H p = some (.lst (xs.map nV))) (hl : xs.length ≤ 2000) : Dd H (.ref p) (.list (xs.map fun x : Nat => PyData.int (x : Int))) := .lst h (by rw [List.length_map]; exact hl) (dd_nats xs)
end

theorem Fr.mutO {S : Addr → Prop} {H H1 H2 : Hp} {p : Addr} (f : Fr S H H1) (g : Fr (Only1 p) H1 H2) (h : H p = none) : Fr S H H2 := ⟨fun b o e n => g.old b o (f.old b o e n) (fun z => by rw [z, h] at e; cases e), fun b xs e => g.tup b xs (f.tup b xs e), fun b e => f.thr b (g.thr b e)⟩
section
variable {K : PySem.W.Frag} {σ : L2.St} {H : Hp} {Q : VK} {trs : List (TE × TE)} {tk tv : TE} {QP : List (V × V) → Hp → Prop} {QH : Hp → Prop}
/-! ### the display of a dict -/
def DispE (p : Addr) (Q : VK) (ps : List (V × V)) (H2 : Hp) : Prop := H2 p = some (.dK []) ∧ ∃ kvs : List (Key × V), ps = kvs.map (fun kv => (kV kv.1, kv.2)) ∧ kvs.length ≤ 15 ∧ Q (.ref p) (upd H2 p (.dK (mergeK [] kvs)))
theorem r_disp (h : ∀ p H1, H p = none → H1 p = some (.dK []) → Fr No H H1 → tPairs trs σ H1 (DispE p Q)) : tDisp trs σ H Q := fun p hp => h p _ hp upd_same (Fr.new hp)
theorem r_pair (h : tk σ H fun x H1 => tv σ H1 fun y H2 => tPairs trs σ H2 fun ps H3 => QP ((x, y) :: ps) H3) : tPairs ((tk, tv) :: trs) σ H QP := h
instance i_pair  : Stp (tPairs ((tk, tv) :: trs) σ H QP) (tk σ H fun x H1 => tv σ H1 fun y H2 => tPairs trs σ H2 fun ps H3 => QP ((x, y) :: ps) H3) := ⟨r_pair⟩
theorem r_pairN (h : QP [] H) : tPairs [] σ H QP := h
instance i_pairN  : Stp (tPairs [] σ H QP) (QP [] H) := ⟨r_pairN⟩
theorem r_dispE {p : Addr} {ps : List (V × V)} (kvs : List (Key × V)) (e : H p = some (.dK [])) (hps : ps = kvs.map (fun kv => (kV kv.1, kv.2))) (hl : kvs.length ≤ 15) (q : ∀ H3, H3 p = some (.dK (mergeK [] kvs)) → Fr (Only1 p) H H3 → Q (.ref p) H3) : DispE p Q ps H :=
  ⟨e, kvs, hps, hl, q _ upd_same (Fr.put e (fun xs z => by cases z))⟩
theorem r_tyD {a : Addr} {kvs : List (Key × V)} {G : Prop} (h : H a = some (.dK kvs)) (g : G) : tyV K "dict" (.ref a) H ∧ G := ⟨.inr (.inr (.inl ⟨rfl, .inl ⟨_, h⟩⟩)), g⟩
theorem r_updD {a b : Addr} {kvs more : List (Key × V)} (ea : H a = some (.dK kvs)) (eb : H b = some (.dK more)) (ne : a ≠ b) (hl : kvs.length + more.length ≤ 2000) (q : ∀ H', H' a = some (.dK (mergeK kvs more)) → Fr (Only1 a) H H' → Q .non H') : rUpdD (.ref a) [.ref b] H Q :=
  ⟨a, b, kvs, more, rfl, rfl, ea, eb, ne, hl, q _ upd_same (Fr.put ea (fun xs z => by cases z))⟩
theorem set_getD {α : Type} {xs : List α} {i : Nat} {d : α} : xs.set i (xs.getD i d) = xs := by
  by_cases h : i < xs.length
  · rw [List.getD_eq_getElem?_getD, List.getElem?_eq_getElem h]
    exact List.set_getElem_self h
  · exact List.set_eq_of_length_le (by omega)
theorem l_setTimE {D : LA} {T : Tb} (h : LdAt H D T) {l : Nat} (hl : l < T.m) (o : Nat) {v : V} (e : v = nV o) (q : ∀ H', LdAt H' D { T with tim := T.tim.set l o } → Fr D.foot H H' → QH H') : rSetL (.ref D.ti) (.int (l : Int)) v H QH := by
  rw [e]
  exact l_setTim h hl o q
end
section
variable {K : PySem.W.Frag} {σ : L2.St} {H : Hp} {Q : VK}
theorem r_cat {a b : Addr} {xs zs : List V} (ha : H a = some (.lst xs)) (hb : H b = some (.lst zs)) (hl : xs.length + zs.length ≤ 2000) (q : ∀ p H', H p = none → H' p = some (.lst (xs ++ zs)) → Fr No H H' → Q (.ref p) H') : rCat (.ref a) (.ref b) H Q := ⟨a, b, xs, zs, rfl, rfl, ha, hb, Nat.le_of_lt (small2000 hl), r_new q⟩
/-- xs[1:] -/
theorem r_tail {a : Addr} {xs : List V} (ha : H a = some (.lst xs)) (q : ∀ p H', H p = none → H' p = some (.lst xs.tail) → Fr No H H' → Q (.ref p) H') : rSlL K (.ref a) (some 1) none H Q := by
  have e : cutV xs (some 1) none = xs.tail := by
    cases xs with
    | nil => rfl
    | cons x r => simp [cutV, HT.sIx] <;> omega
  exact ⟨a, xs, rfl, SqL.of ha, by rw [e]; exact r_new q⟩
theorem r_slc {r : V → Option Int → Option Int → Hp → VK → Prop} {te : TE} {a b : L2.St → Hp → (Option Int → Hp → Prop) → Prop} (h : te σ H fun x H1 => a σ H1 fun lo H2 => b σ H2 fun hi H3 => r x lo hi H3 Q) : tSl r te a b σ H Q := h
instance i_slc {r : V → Option Int → Option Int → Hp → VK → Prop} {te : TE} {a b : L2.St → Hp → (Option Int → Hp → Prop) → Prop} : Stp (tSl r te a b σ H Q) (te σ H fun x H1 => a σ H1 fun lo H2 => b σ H2 fun hi H3 => r x lo hi H3 Q) := ⟨r_slc⟩
theorem r_noPart {QP : Option Int → Hp → Prop} (h : QP none H) : tNoPart σ H QP := h
instance i_noPart {QP : Option Int → Hp → Prop} : Stp (tNoPart σ H QP) (QP none H) := ⟨r_noPart⟩
theorem r_part {te : TE} {QP : Option Int → Hp → Prop} (h : te σ H fun x H1 => ∃ i, x = .int i ∧ QP (some i) H1) : tPart te σ H QP := h
instance i_part {te : TE} {QP : Option Int → Hp → Prop} : Stp (tPart te σ H QP) (te σ H fun x H1 => ∃ i, x = .int i ∧ QP (some i) H1) := ⟨r_part⟩
theorem r_partI {i : Int} {QP : Int → Prop} (h : QP i) : ∃ j, V.int i = .int j ∧ QP j := ⟨i, rfl, h⟩
instance i_partI {i : Int} {QP : Int → Prop} : Stp (∃ j, V.int i = .int j ∧ QP j) (QP i) := ⟨r_partI⟩
theorem ixc {xs : List V} {v w : V} (h : (xs ++ [v])[0]? = some w) : w = xs.headD v := by
  cases xs with
  | nil => exact (Option.some.inj h).symm
  | cons x r => exact (Option.some.inj h).symm
theorem head_cat {xs : List V} {v : V} : (xs ++ [v])[0]? = some (xs.headD v) := by
  cases xs <;> rfl
theorem headD_o {xs : List Nat} : (xs.map nV).headD .non = oV xs.head? := by cases xs <;> rfl
end
/-- one more object that is none of the lines -/
def LA.more (D : LA) (p : Addr) : LA := { D with bad := fun b => D.bad b ∨ b = p }
theorem LdAt.more {H H' : Hp} {D : LA} {T : Tb} {p : Addr} (h : LdAt H D T) (hp : H p = none) (f : Fr No H H') (e : H' p ≠ none) : LdAt H' (D.more p) T := by
  have h' := h.fr0 f
  obtain ⟨as, a1, a2, a3⟩ := h'.lin
  obtain ⟨as0, b1, b2, b3⟩ := h.lin
  refine ⟨h'.dic, h'.own, h'.tim, h'.wan, h'.rou, ⟨as, a1, a2, fun i a ea => ⟨(a3 i a ea).1, fun z => ?_⟩⟩, h'.nd, fun b hb z => ?_, fun b hb => .inl (h.own_bad b hb), h.sz⟩
  · rcases z with z | z
    · exact (a3 i a ea).2 z
    · have e1 := f.lst b1
      have e2 : H' D.li = some (.lst (as.map V.ref)) := a1
      rw [e1] at e2
      have e3 : as0.map V.ref = as.map V.ref := by
        have := Option.some.inj e2
        injection this
      have e4 : as0 = as := List.map_inj_right (fun x y q => V.ref.inj q) |>.mp e3
      have := (b3 i a (by rw [e4]; exact ea)).1
      rw [z, hp] at this
      cases this
  · rcases hb with hb | hb
    · exact h'.old b hb z
    · exact e (hb ▸ z)
theorem LdAt.less {H : Hp} {D : LA} {T : Tb} {p : Addr} (h : LdAt H (D.more p) T) (ob : ∀ b, D.has b → D.bad b) : LdAt H D T := by
  obtain ⟨as, a1, a2, a3⟩ := h.lin
  exact ⟨h.dic, h.own, h.tim, h.wan, h.rou, ⟨as, a1, a2, fun i a ea => ⟨(a3 i a ea).1, fun z => (a3 i a ea).2 (.inl z)⟩⟩, h.nd, fun b hb => h.old b (.inl hb), ob, h.sz⟩
theorem LdAt.mut {H H' : Hp} {D : LA} {T : Tb} {p : Addr} (h : LdAt H (D.more p) T) (f : Fr (Only1 p) H H') (n : ¬ D.has p) : LdAt H' (D.more p) T := h.fr f (fun b hb => .inr hb) (fun b hb z => n (z ▸ hb))
theorem turns_list {α : Type} (xs : List α) (d0 : α) (p : α → Bool) (g : α → PyData) : turns (fun i => p (xs.getD i d0)) (fun i => g (xs.getD i d0)) xs.length = (xs.filter p).map g := by
  unfold turns
  have e : (List.range xs.length).map (fun i => xs.getD i d0) = xs := by
    refine List.ext_getElem (by simp) fun i h1 h2 => ?_
    rw [List.getElem_map, List.getElem_range, List.getD_eq_getElem?_getD, List.getElem?_eq_getElem h2]
    rfl
  have e2 : (xs.filter p).map g = (((List.range xs.length).map (fun i => xs.getD i d0)).filter p).map g := by rw [e]
  rw [e2, List.filter_map, List.map_map]
  rfl
theorem l_lineAt {K : PySem.W.Frag} {H : Hp} {D : LA} {T : Tb} (h : LdAt H D T) {l : Nat} (hl : l < T.m) : ∃ b, H b = some (.lst ((T.ln l).map nV)) ∧ ¬ D.bad b ∧ ∀ Q : VK, Q (.ref b) H → rIxL K (.ref D.li) (.int (l : Int)) H Q := by
  obtain ⟨as, a1, a2, a3⟩ := h.lin
  have hl' : l < as.length := by rw [a2, h.sz.li]; exact hl
  have e := List.getElem?_eq_getElem hl'
  exact ⟨_, (a3 _ _ e).1, (a3 _ _ e).2, fun Q q => r_ixl a1 (by rw [List.getElem?_map, e]; rfl) q⟩
theorem oD_depth (o : Option Nat) : (oD o).depth = 0 := by cases o <;> rfl
theorem nats_depth : ∀ xs : List Nat, PyData.depthAll (xs.map fun x : Nat => PyData.int (x : Int)) = 0
  | [] => by simp [PyData.depthAll]
  | x :: r => by
    have := nats_depth r
    simp only [List.map_cons, PyData.depthAll, PyData.depth, this]
    rfl
/-- what is given so far by one that leaves -/
structure LvD (D : LA) (T : Tb) (H : Hp) (P : Addr) (ls : List Nat) (H' : Hp) : Prop where
  fr : Fr D.foot H H'
  at_ : LsAt H' P (gone (Tb.passAll ls T).1)
  tb : LdAt H' (D.more P) (Tb.passAll ls T).2
/-! ### results -/
inductive Out where
  | b (x : Bool)
  | o (x : Option Nat)
  | g (rs : List (Nat × Option Nat))
def Out.d : Out → PyData
  | .b x => .bool x
  | .o x => oD x
  | .g rs => .list (gone rs)
def resD : Except Wd Out → PyData
  | .error w => .str w.str
  | .ok o => o.d
def OutAt (H H0 : Hp) (v : V) : Out → Prop
  | .b x => v = .bl x
  | .o x => v = oV x
  | .g rs => ∃ p, v = .ref p ∧ H0 p = none ∧ LsAt H p (gone rs) ∧ rs.length ≤ 100
def ResAt (H H0 : Hp) (v : V) : Except Wd Out → Prop
  | .error w => v = .str w.str
  | .ok o => OutAt H H0 v o
theorem gone_len (rs : List (Nat × Option Nat)) : (gone rs).length = rs.length := List.length_map _
theorem td_gone {H : Hp} : ∀ {rs : List (Nat × Option Nat)} {vs : List V}, TdAll H vs (gone rs) → DdAll H vs (gone rs)
  | [], _, h => by cases h; exact .nil
  | r :: rs, _, h => by
    cases h with
    | cons h1 h2 =>
      refine .cons ?_ (td_gone h2)
      cases h1 with
      | tup e a =>
        refine .tup e ?_ ?_
        · rw [a.len]
          show 2 ≤ 2000
          decide
        · cases a with
          | cons a1 a2 =>
            cases a2 with
            | cons b1 b2 =>
              cases b2
              refine .cons ?_ (.cons ?_ .nil)
              · cases a1; exact .int _
              · cases q : r.2 with
                | none => rw [q] at b1; cases b1; exact .non
                | some n => rw [q] at b1; cases b1; exact .int _
theorem OutAt.dd {H H0 : Hp} {v : V} {o : Out} (h : OutAt H H0 v o) : Dd H v o.d := by
  cases o with
  | b x => rw [show v = .bl x from h]; exact .bl x
  | o x => rw [show v = oV x from h]; exact dd_o x
  | g rs =>
    obtain ⟨p, rfl, _, ⟨vs, h1, h2⟩, hl⟩ := h
    exact .lst h1 (by rw [h2.len, gone_len]; omega) (td_gone h2)
theorem ResAt.dd {H H0 : Hp} {v : V} {r : Except Wd Out} (h : ResAt H H0 v r) : Dd H v (resD r) := by
  cases r with
  | error w => rw [show v = .str w.str from h]; exact .str _
  | ok o => exact OutAt.dd h
theorem OutAt.fr {S : Addr → Prop} {H H' H0 : Hp} {v : V} {o : Out} (h : OutAt H H0 v o) (f : Fr S H H') (n : ∀ p, S p → H0 p ≠ none) : OutAt H' H0 v o := by
  cases o with
  | b x => exact h
  | o x => exact h
  | g rs =>
    obtain ⟨p, h1, h0, h2, hl⟩ := h
    exact ⟨p, h1, h0, h2.fr f (fun z => n p z h0), hl⟩
theorem ResAt.fr {S : Addr → Prop} {H H' H0 : Hp} {v : V} {r : Except Wd Out} (h : ResAt H H0 v r) (f : Fr S H H') (n : ∀ p, S p → H0 p ≠ none) : ResAt H' H0 v r := by
  cases r with
  | error w => exact h
  | ok o => exact OutAt.fr h f n
theorem gone_depth : ∀ rs : List (Nat × Option Nat), PyData.depthAll (gone rs) ≤ 1
  | [] => by simp [gone, PyData.depthAll]
  | r :: rs => by
    have ih := gone_depth rs
    show PyData.depthAll (PyData.tuple [PyData.int (r.1 : Int), oD r.2] :: gone rs) ≤ 1
    have e : (oD r.2).depth = 0 := by cases r.2 <;> rfl
    simp only [PyData.depthAll, PyData.depth, e]
    omega
theorem resD_depth (r : Except Wd Out) : (resD r).depth < 8 := by
  cases r with
  | error w => exact Nat.lt_of_le_of_lt (Nat.le_refl 0) (by decide)
  | ok o =>
    cases o with
    | b x => exact Nat.lt_of_le_of_lt (Nat.le_refl 0) (by decide)
    | o x => cases x <;> exact Nat.lt_of_le_of_lt (Nat.le_refl 0) (by decide)
    | g rs =>
      show PyData.depth (.list (gone rs)) < 8
      have := gone_depth rs
      simp only [PyData.depth]
      omega
/-! ### the law's own table -/
abbrev sp_Ltable (K : PySem.W.Frag) : Sp := sp2 fun x y H Q E => ∃ n m : Nat, x = .int (n : Int) ∧ y = .int (m : Int) ∧ (Tb.new n m).Sz ∧ ∃ bad : Addr → Prop, (∀ b, bad b → H b ≠ none) ∧
  ∀ D H', LdAt H' D (Tb.new n m) → Fr No H H' → (∀ b, D.has b → H b = none) → (∀ b, D.bad b ↔ (D.has b ∨ bad b)) → Q (.ref D.d) H'
namespace Tb
def got (T : Tb) (o : Option Nat) (l : Nat) : Tb := match o with
  | none => T.free l
  | some a => T.take a l
end Tb
abbrev sp_Lgot (K : PySem.W.Frag) : Sp := sp3 fun x y z H Q E => ∃ D T, ∃ l : Nat, ∃ o : Option Nat, x = .ref D.d ∧ y = oV o ∧ z = .int (l : Int) ∧ LdAt H D T ∧ l < T.m ∧ ∀ H', LdAt H' D (T.got o l) → Fr D.foot H H' → Q .non H'
abbrev sp_Lpassed (K : PySem.W.Frag) : Sp := sp2 fun x z H Q E => ∃ D T, ∃ l : Nat, x = .ref D.d ∧ z = .int (l : Int) ∧ LdAt H D T ∧ l < T.m ∧ (∀ a ∈ T.ln l, a < T.n) ∧ (T.ln l).length ≤ 8 ∧ ∀ H', LdAt H' D (T.pass l) → Fr D.foot H H' → Q (oV (T.heir l)) H'
def fstr : Option Wd → Str
  | none => ""
  | some w => w.str
abbrev sp_Lfault (K : PySem.W.Frag) : Sp := sp3 fun x y z H Q E => ∃ D T a l, x = .ref D.d ∧ y = .int a ∧ z = .int l ∧ LdAt H D T ∧ Q (.str (fstr (T.fault a l))) H
abbrev sp_Lask (K : PySem.W.Frag) : Sp := sp3 fun x y z H Q E => ∃ D T a l, x = .ref D.d ∧ y = .int a ∧ z = .int l ∧ LdAt H D T ∧ T.Wf ∧ (∀ w T', T.askR a l = (.error w, T') → ∀ H', Fr No H H' → Q (.str w.str) H') ∧
  ∀ b T', T.askR a l = (.ok b, T') → ∀ H', LdAt H' D T' → Fr D.foot H H' → Q (.bl b) H'
abbrev sp_Lgive (K : PySem.W.Frag) : Sp := sp3 fun x y z H Q E => ∃ D T a l, x = .ref D.d ∧ y = .int a ∧ z = .int l ∧ LdAt H D T ∧ T.Wf ∧ (∀ w T', T.giveR a l = (.error w, T') → ∀ H', Fr No H H' → Q (.str w.str) H') ∧
  ∀ b T', T.giveR a l = (.ok b, T') → ∀ H', LdAt H' D T' → Fr D.foot H H' → Q (oV b) H'
abbrev sp_Lheld (K : PySem.W.Frag) : Sp := sp2 fun x y H Q E => ∃ D T, ∃ a : Nat, x = .ref D.d ∧ y = .int (a : Int) ∧ LdAt H D T ∧ ∀ p H', H p = none → H' p = some (.lst ((T.held a).map nV)) → Fr No H H' → Q (.ref p) H'
abbrev sp_Lleave (K : PySem.W.Frag) : Sp := sp2 fun x y H Q E => ∃ D T a, x = .ref D.d ∧ y = .int a ∧ LdAt H D T ∧ T.Wf ∧ (∀ w T', T.leaveR a = (.error w, T') → Q (.str w.str) H) ∧
  ∀ b T', T.leaveR a = (.ok b, T') → ∀ p H', LdAt H' D T' → Fr D.foot H H' → H p = none → LsAt H' p (gone b) → Q (.ref p) H'
abbrev sp_Lis (K : PySem.W.Frag) : Sp := sp2 fun x y H Q E => ∃ A D T, x = .ref A.p ∧ y = .ref D.d ∧ TbK K H A T ∧ LdAt H D T ∧ T.Wf ∧ ∀ H', Fr No H H' → Q (.bl true) H'
/-! ### deeds -/
inductive Deed where
  | ask (a l : Int)
  | give (a l : Int)
  | leave (a : Int)
def Deed.vs : Deed → List V
  | .ask a l => [.str "ask", .int a, .int l]
  | .give a l => [.str "give", .int a, .int l]
  | .leave a => [.str "leave", .int a]
def Tb.deedR (T : Tb) : Deed → Except Wd Out × Tb
  | .ask a l => ((T.askR a l).1.map Out.b, (T.askR a l).2)
  | .give a l => ((T.giveR a l).1.map Out.o, (T.giveR a l).2)
  | .leave a => ((T.leaveR a).1.map Out.g, (T.leaveR a).2)
namespace Tb
variable {T T' : Tb} {a l : Int} {w : Wd}
theorem askR_same {w : Wd} (e : T.askR a l = (.error w, T')) : T' = T := by
  unfold askR at e
  split at e
  · cases e; rfl
  · split at e
    · cases e; rfl
    · split at e
      · cases e; rfl
      · split at e <;> cases e
theorem giveR_same {w : Wd} (e : T.giveR a l = (.error w, T')) : T' = T := by
  unfold giveR at e
  split at e
  · cases e; rfl
  · split at e
    · cases e; rfl
    · split at e <;> cases e
      rfl
theorem leaveR_same {w : Wd} (e : T.leaveR a = (.error w, T')) : T' = T := by
  unfold leaveR at e
  split at e <;> cases e
  rfl
theorem leaveR_len {rs : List (Nat × Option Nat)} (W : T.Wf) (e : T.leaveR a = (.ok rs, T')) : rs.length ≤ 100 := by
  unfold leaveR at e
  split at e
  · cases e
    unfold leave
    rw [passAll_len]
    have h1 := held_len (T := T.unwait a.toNat) (a := a.toNat)
    have h2 := W.sz.m12
    rw [unwait_m] at h1
    omega
  · cases e
end Tb
section
variable {K : PySem.W.Frag} {H : Hp} {Q : VK} {v : V}
theorem r_ixt {a : Addr} {xs : List V} {i : Nat} (h : H a = some (.tup xs)) (e : xs[i]? = some v) (q : Q v H) : rIxT K (.ref a) (.int (i : Int)) H Q := ⟨a, _, _, _, rfl, rfl, SqT.of h, atI_nat e, q⟩
end
abbrev sp_Ldeed (K : PySem.W.Frag) : Sp := sp2 fun x y H Q E => ∃ st sc ns D T, x = .ref st ∧ y = .ref D.d ∧ StAt K H st sc ns ∧ ScF K sc ns (Only1 st) ∧ LdAt H D T ∧ D.bad st ∧ ¬ D.has st ∧
  ∀ p (dd : Deed) H', H p = none → H' p = some (.tup dd.vs) → StAt K H' st sc ns → Fr (Only1 st) H H' → Q (.ref p) H'
abbrev sp_Ldue (K : PySem.W.Frag) : Sp := sp2 fun x y H Q E => ∃ D T p, ∃ dd : Deed, x = .ref D.d ∧ y = .ref p ∧ LdAt H D T ∧ T.Wf ∧ H p = some (.tup dd.vs) ∧ ∀ v H', LdAt H' D (T.deedR dd).2 → ResAt H' H v (T.deedR dd).1 → Fr D.foot H H' → Q v H'
abbrev sp_Ldoes (K : PySem.W.Frag) : Sp := sp2 fun x y H Q E => ∃ A T p, ∃ dd : Deed, x = .ref A.p ∧ y = .ref p ∧ TbK K H A T ∧ T.Wf ∧ H p = some (.tup dd.vs) ∧ (∀ w, (T.deedR dd).1 = .error w → eW K w E H) ∧
  ∀ v o H', (T.deedR dd).1 = .ok o → TbK K H' A (T.deedR dd).2 → OutAt H' H v o → Fr A.foot H H' → Q v H'
end AL

namespace AL
open PySem PySem.Spec PyProof.Rows L2
/-! # the refusals' kinds; a lambda's call -/
def Wd.all : List Wd := [.noTable, .noHall, .noAgent, .noLock, .noHouse, .noLetter, .stopped, .waits, .holds, .notHeld, .up]
theorem Wd.mem (w : Wd) : w ∈ Wd.all := by cases w <;> decide
def excB (K : PySem.W.Frag) (D : Addr) : Bool :=
  decide (PySem.W.findIn K (.ref D) "__getattribute__" = some (some (.builtin "BaseException.__getattribute__"))) && (decide (PySem.W.findIn K (.ref D) "__getattr__" = some none) && (decide (PySem.W.subIn K (.ref D) (.type "BaseException") = some true) && (PySem.W.hasDictIn K D && (decide (PySem.W.findIn K (.ref D) "__class__" = some (some (.builtin "object.__class__"))) &&
  (decide (PySem.W.specialIn K (.builtin "object.__class__") "__get__" = some (some (.builtin "getset_descriptor.__get__"))) && (decide (PySem.W.takesIn K (.builtin "object.__class__") = some true) && decide (PySem.W.mroIn K D (.type "object") = some true)))))))
theorem excB_ok {K : PySem.W.Frag} {D : Addr} (h : excB K D = true) : ExcC K D := by
  unfold excB at h
  simp only [Bool.and_eq_true, decide_eq_true_eq] at h
  obtain ⟨h1, h2, h3, h4, h5, h6, h7, h8⟩ := h
  exact ⟨h1, h2, h3, h4, h5, h6, h7, h8⟩
def exB (K : PySem.W.Frag) : Bool := Wd.all.all fun w => excB K (He.ga K w.str) && (decide (PySem.W.kitOne K (w.cls K) (.type "ValueError") = some true) && (decide (PySem.W.exmOne K (w.cls K) (.ref (He.ga K "LockError")) = some true) && Wd.all.all fun w' => decide (PySem.W.kitOne K (w.cls K) (w'.cls K) = some (decide (w = w')))))
structure WdK (K : PySem.W.Frag) : Prop where
  x : ∀ w : Wd, ExcC K (He.ga K w.str)
  v : ∀ w : Wd, PySem.W.kitOne K (.ref (He.ga K w.str)) (.type "ValueError") = some true
  m : ∀ w : Wd, PySem.W.exmOne K (.ref (He.ga K w.str)) (.ref (He.ga K "LockError")) = some true
  w : ∀ w w' : Wd, PySem.W.kitOne K (.ref (He.ga K w.str)) (.ref (He.ga K w'.str)) = some (decide (w = w'))
theorem wdK_of {K : PySem.W.Frag} (h : exB K = true) : WdK K := by
  have k : ∀ w : Wd, _ := fun w => List.all_eq_true.mp h w w.mem
  simp only [Bool.and_eq_true, decide_eq_true_eq] at k
  exact ⟨fun w => excB_ok (k w).1, fun w => (k w).2.1, fun w => (k w).2.2.1, fun w w' => by
    have := List.all_eq_true.mp (k w).2.2.2 w' w'.mem
    exact of_decide_eq_true this⟩
/-! ### l.count(x), flat items -/
def rCntV (K : PySem.W.Frag) : V → List V → Hp → VK → Prop := fun x xs H Q => ∃ (p : Addr) (ys : List V) (y : V), x = .ref p ∧ xs = [y] ∧ SqL K H p ys ∧ flatV y = true ∧ ys.all flatV = true ∧ Q (.int ((ys.countP fun z => eqV z y : Nat) : Int)) H
theorem cnt_vals {y : V} : ∀ {ys : List V} {us : List Value}, Vals ys us → ys.all flatV = true → us.countP (eqU y) = ys.countP fun z => eqV z y
  | _, _, .nil, _ => rfl
  | z :: ys, u :: us, .cons r t, f => by
    rw [List.all_cons, Bool.and_eq_true] at f
    have e := eqU_of (x := y) r f.1
    rw [List.countP_cons, List.countP_cons, cnt_vals t f.2, e]
theorem mt_lcountV {X : Cx} : MtR X "list.count" (rCntV X.K) := by
  intro pins s σ H x xs v us Q I rx rxs h
  obtain ⟨p, ys, y, rfl, rfl, hs, fy, fys, q⟩ := h
  cases rx
  obtain ⟨u, rfl, ry⟩ := rxs.one
  obtain ⟨its, rv, ⟨⟨cls, dd, data, sl⟩, n, ho, hc, hdn, hd⟩, hlen⟩ := I.list hs
  simp only at hc hd
  subst hc hd
  have ec : its.toArray.toList.countP (eqU y) = ys.countP fun z => eqV z y := cnt_vals rv fys
  have fin : V.int ((ys.countP fun z => eqV z y : Nat) : Int) = V.int ((its.toArray.toList.countP (eqU y) : Nat) : Int) := by rw [ec]
  rw [fin] at q
  exact call_meets PySem.F.slot_list_count ⟨_, ho, rfl⟩ PySem.F.entry_list_count (PySem.F.args_list_count_2 _ _) (SeqAt.list_countAt p its.toArray n dd sl u (eqU y))
    ⟨ho, fun u' hu => mem_eqAt ry fy rv fys u' (by simpa using hu), .int _, H, I.tok _, ⟨s.toks, rfl⟩, q⟩
/-! ### readings -/
section
variable {K : PySem.W.Frag} {H : Hp} {Q : VK}
theorem r_isE (W : WdK K) {w : Wd} (w' : Wd) {a : Addr} (q : Q (.bl (decide (w = w'))) H) : rIsE K (He.ga K w.str) a [.ref a, .ref (He.ga K w'.str)] H Q := ⟨_, .ref (He.ga K w'.str), _, rfl, fun u r => r, W.w w w', q⟩
theorem r_isEV (W : WdK K) {w : Wd} {a : Addr} (q : Q (.bl true) H) : rIsE K (He.ga K w.str) a [.ref a, .ty "ValueError"] H Q := ⟨_, .type "ValueError", _, rfl, fun u r => r, W.v w, q⟩
end
/-- the answers of the eleven questions -/
def Wd.row (w : Wd) : List V := [.bl (decide (w = .noTable)), .bl (decide (w = .noHall)), .bl (decide (w = .noAgent)), .bl (decide (w = .noLock)), .bl (decide (w = .noHouse)), .bl (decide (w = .noLetter)), .bl (decide (w = .stopped)), .bl (decide (w = .waits)), .bl (decide (w = .holds)), .bl (decide (w = .notHeld)), .bl (decide (w = .up))]
def Wd.ix : Wd → Nat
  | .noTable => 0 | .noHall => 1 | .noAgent => 2 | .noLock => 3 | .noHouse => 4 | .noLetter => 5 | .stopped => 6 | .waits => 7 | .holds => 8 | .notHeld => 9 | .up => 10
def Wd.words : List V := [.str "NoTable", .str "NoHall", .str "NoAgent", .str "NoLock", .str "NoHouse", .str "NoLetter", .str "Stopped", .str "Waits", .str "Holds", .str "NotHeld", .str "Up"]
theorem Wd.row_flat (w : Wd) : w.row.all flatV = true := by cases w <;> decide
theorem Wd.row_cnt (w : Wd) : (w.row.countP fun z => eqV z (.bl true)) = 1 := by cases w <;> decide
theorem Wd.row_ix (w : Wd) : w.row[w.ix]? = some (.bl true) := by cases w <;> rfl
theorem Wd.row_no (w : Wd) : ∀ (m : Nat) (z : V), m < w.ix → w.row[m]? = some z → eqV z (.bl true) = false := by
  intro m z hm hz
  have key : ∀ m, m < w.ix → w.row[m]? = some (.bl false) := by
    cases w <;> decide +revert
  rw [key m hm] at hz
  cases hz
  rfl
theorem Wd.word_ix (w : Wd) : Wd.words[w.ix]? = some (.str w.str) := by cases w <;> rfl
/-- what the catcher makes of a lambda's reading -/
def TKind (K : PySem.W.Frag) : (XK → Hp → VK → Prop) → Hp → VK → Prop := fun tl H Q => tl (fun cls d H' => d = none ∧ ∃ w : Wd, cls = w.cls K ∧ ∀ H2, Fr No H' H2 → Q (.str w.str) H2) H Q
/-- what the catcher's suite may lean on -/
def tsKind (K : PySem.W.Frag) : Addr → Value → Option Addr → TS := fun a cls d D σ H => ∃ w : Wd, cls = w.cls K ∧ d = none ∧ (∃ σ0 : L2.St, σ = σ0.set 1 (some (.ref a))) ∧ ∀ H2, Fr No H H2 → D.rt (.str w.str) H2
theorem slots4 {σ0 : L2.St} {y : Option V} (h : (σ0.set 1 y).length = 4) : ∃ x z u, σ0.set 1 y = [x, y, z, u] := by
  rw [List.length_set] at h
  match σ0, h with
  | [a, b, c, d], _ => exact ⟨a, c, d, rfl⟩
theorem pLam {X : Cx} {A : Around} {outer : List Env} {s : Shared} {H : Hp} {E : XK} {scope : Scope} {f c' : Addr} : Passes (L2.CX X.prog X.w) (LamX.lamCx X A outer s H E scope f c') E :=
  passes_call (takes_of rfl rfl rfl rfl) fun _ _ _ _ h => h
/-! ### tables of code objects -/
section
variable {H H' : Hp} {S : Addr → Prop} {T : List (Addr × Str)} {D : LA} {Tt : Tb} {K : PySem.W.Frag} {A : TA}
def OldL (S : Addr → Prop) (H : Hp) : Prop := ∀ b, S b → ∃ xs, H b = some (.lst xs)
theorem tabs_fr (t : LamX.Tabs T H) (f : Fr S H H') (hS : OldL S H) : LamX.Tabs T H' := fun p hp => by
  obtain ⟨ps, h1, h2, h3⟩ := t p hp
  refine ⟨ps, f.old _ _ h1 (fun z => ?_), h2, fun pos cv hc => ?_⟩
  · obtain ⟨xs, e⟩ := hS _ z
    rw [h1] at e
    cases e
  · obtain ⟨c, e1, e2⟩ := h3 pos cv hc
    refine ⟨c, e1, f.old _ _ e2 (fun z => ?_)⟩
    obtain ⟨xs, e⟩ := hS _ z
    rw [e2] at e
    unfold LamX.CodeO at e
    cases e
theorem old_no : OldL No H := fun _ z => z.elim
theorem old_foot {C : Addr} (h : TbAt C H A Tt) : OldL A.foot H := fun b hb => by
  unfold TA.foot at hb
  simp only [List.mem_cons] at hb
  rcases hb with e | e | e | e | e
  · rw [e]; exact ⟨_, h.own⟩
  · rw [e]; exact ⟨_, h.tim⟩
  · rw [e]; exact ⟨_, h.wan⟩
  · rw [e]; exact ⟨_, h.rou⟩
  · obtain ⟨i, hi, e⟩ := List.mem_iff_getElem.mp e
    exact ⟨_, h.each i b (by rw [List.getElem?_eq_getElem hi, e])⟩
theorem old_lfoot (h : LdAt H D Tt) : OldL D.foot H := fun b hb => by
  unfold LA.foot at hb
  simp only [List.mem_cons, List.not_mem_nil, or_false] at hb
  obtain ⟨as, a1, _⟩ := h.lin
  rcases hb with e | e | e | e | e
  · rw [e]; exact ⟨_, h.own⟩
  · rw [e]; exact ⟨_, a1⟩
  · rw [e]; exact ⟨_, h.tim⟩
  · rw [e]; exact ⟨_, h.wan⟩
  · rw [e]; exact ⟨_, h.rou⟩
theorem old_one {p : Addr} {xs : List V} (h : H p = some (.lst xs)) : OldL (Only1 p) H := fun b hb => ⟨xs, by rw [show b = p from hb]; exact h⟩
/-- what stands stays when a lambda is made -/
theorem TbAt.ext {C : Addr} (h : TbAt C H A Tt) (e : LamX.ExtN H H') : TbAt C H' A Tt :=
  ⟨e _ _ h.ins (fun ps z => by cases z), e _ _ h.own (fun ps z => by cases z), e _ _ h.lin (fun ps z => by cases z), e _ _ h.tim (fun ps z => by cases z), e _ _ h.wan (fun ps z => by cases z), e _ _ h.rou (fun ps z => by cases z), fun i a k => e _ _ (h.each i a k) (fun ps z => by cases z), h.ll, h.nd, h.sz⟩
theorem LdAt.ext (h : LdAt H D Tt) (e : LamX.ExtN H H') (hb : ∀ b, D.bad b → ∃ o, H b = some o ∧ ∀ ps, o ≠ .tbl ps) : LdAt H' D Tt := by
  obtain ⟨as, a1, a2, a3⟩ := h.lin
  exact ⟨e _ _ h.dic (fun ps z => by cases z), e _ _ h.own (fun ps z => by cases z), e _ _ h.tim (fun ps z => by cases z), e _ _ h.wan (fun ps z => by cases z), e _ _ h.rou (fun ps z => by cases z), ⟨as, e _ _ a1 (fun ps z => by cases z), a2, fun i a k => ⟨e _ _ (a3 i a k).1 (fun ps z => by cases z), (a3 i a k).2⟩⟩, h.nd, (fun b k z => by
    obtain ⟨o, h1, h2⟩ := hb b k
    rw [e _ _ h1 h2] at z
    cases z), h.own_bad, h.sz⟩
theorem sqL_ext {a : Addr} {xs : List V} (h : SqL K H a xs) (e : LamX.ExtN H H') : SqL K H' a xs := by
  rcases h with (h | ⟨o, h⟩) | h
  · exact .inl (.inl (e _ _ h (fun ps z => by cases z)))
  · exact .inl (.inr ⟨o, e _ _ h (fun ps z => by cases z)⟩)
  · exact .inr h
theorem StAt.ext {st sc : Addr} {ns : List Int} (h : StAt K H st sc ns) (e : LamX.ExtN H H') : StAt K H' st sc ns := by
  obtain ⟨i, m, l, h1, h2, h3⟩ := h.ex
  exact ⟨⟨i, m, l, e _ _ h1 (fun ps z => by cases z), h2, h3⟩, sqL_ext h.sq e, h.len⟩
theorem OutAt.ext {H0 : Hp} {v : V} {o : Out} (h : OutAt H H0 v o) (e : LamX.ExtN H H') : OutAt H' H0 v o := by
  have td : ∀ (xs : List V) (rs : List (Nat × Option Nat)), TdAll H xs (gone rs) → TdAll H' xs (gone rs) := by
    intro xs rs
    induction rs generalizing xs with
    | nil => intro h; cases h; exact .nil
    | cons r rs ih =>
      intro h
      cases h with
      | cons h1 h2 =>
        refine .cons ?_ (ih _ h2)
        cases h1 with
        | tup k a =>
          refine .tup (e _ _ k (fun ps z => by cases z)) ?_
          cases a with
          | cons a1 a2 =>
            cases a2 with
            | cons b1 b2 =>
              cases b2
              refine .cons ?_ (.cons ?_ .nil)
              · cases a1; exact .int _
              · cases q : r.2 with
                | none => rw [q] at b1; cases b1; exact .non
                | some n => rw [q] at b1; cases b1; exact .int _
  cases o with
  | b x => exact h
  | o x => exact h
  | g rs =>
    obtain ⟨p, h1, h0, ⟨vs, h2, h3⟩, hl⟩ := h
    exact ⟨p, h1, h0, ⟨vs, e _ _ h2 (fun ps z => by cases z), td _ _ h3⟩, hl⟩
theorem ResAt.ext {H0 : Hp} {v : V} {r : Except Wd Out} (h : ResAt H H0 v r) (e : LamX.ExtN H H') : ResAt H' H0 v r := by
  cases r with
  | error w => exact h
  | ok o => exact OutAt.ext h e
end
theorem hu_nodup {α : Type} {tf : List α} {g : α → Addr} {qn : α → Str} (nd : (tf.map g).Nodup) {d : α} (hd : d ∈ tf) : ∀ p ∈ tf.map (fun d => (g d, qn d)), p.1 = g d → p.2 = qn d := fun p hp e => by
  obtain ⟨c, hc, rfl⟩ := List.mem_map.mp hp
  have e' : g c = g d := e
  have : c = d := by
    clear hp
    induction tf with
    | nil => cases hd
    | cons x r ih =>
      rw [List.map_cons, List.nodup_cons] at nd
      rcases List.mem_cons.mp hd with h1 | h1 <;> rcases List.mem_cons.mp hc with h2 | h2
      · rw [h1, h2]
      · exact absurd (List.mem_map.mpr ⟨c, h2, e'.trans (by rw [h1])⟩) nd.1
      · exact absurd (List.mem_map.mpr ⟨d, h1, e'.symm.trans (by rw [h2])⟩) nd.1
      · exact ih nd.2 h1 h2
  rw [this]
/-- a def in which a lambda is made: its code object and table are known -/
theorem fnFL {P : Program} {w : World} {K : PySem.W.Frag} {mg : Str → Option Value} {base : Heap} {x qual : Str} {st : Stmt} {p : He.Defn} {N ps : List Str} {k : Nat} {sp : Sp} {fd : FuncData} (F : FunD K x qual (defArgs st) (defBody st) (defScope st) [] [] (He.fAd K p) fd) (S : FnScope N ps (defScope st))
    (len : ∀ vs H Q E, sp vs H Q E → vs.length = ps.length)
    (hbody : ∀ (A : Around) (outer : List Env) (s : Shared) (H : Hp) (vs : List V) (Q : VK) (E : XK), Room k (A.deeper (envOfC qual (defScope st) s.heap.objs.size (He.fAd K p) (.ref (He.cT K p).1))) → sp vs H Q E →
      ∃ t, PSs (cxOf (L2.CX P w) P w K mg base N qual (defScope st) (He.fAd K p) (.ref (He.cT K p).1) A outer s H E) (defBody st) t ∧ t { nx := fun _ H' => Q .non H', rt := Q } (start N vs) H) : FnOk P w K mg base (L2.CX P w) (k + 1) (He.fAd K p) fd ps sp := by
  obtain ⟨oc, od, dV, kV, doc, pm, an, cdv, ct, osl, e, lk, hcd, _, _⟩ := F.ex
  obtain ⟨c, rfl⟩ := He.codeIn_ref hcd
  subst e
  have ec : (He.cT K p).1 = c := He.codeOf_eq lk rfl
  rw [ec] at hbody
  exact fn_of lk hcd S len fun A outer s H vs Q E hr hsp => hbody A outer s H vs Q E hr hsp
/-- a def in which a lambda is made: its code object and table are known -/
theorem okFL {P : Program} {w : World} {K : PySem.W.Frag} {mg : Str → Option Value} {base : Heap} {x qual : Str} {st : Stmt} {p : He.Defn} {N ps : List Str} {k : Nat} {sp : Sp} (F : DefAt K x qual st (He.fAd K p)) (S : FnScope N ps (defScope st))
    (hbi : ∀ (kV doc pm : Value) (an : Option Addr) (cdv ct : Value) (us : List Value), us.length = ps.length → bindArgs (PySem.W.fnOf x qual (defArgs st) (defBody st) (defScope st) .none kV doc pm an cdv ct) ⟨us, []⟩ = pure (ps.zip us))
    (len : ∀ vs H Q E, sp vs H Q E → vs.length = ps.length)
    (hbody : ∀ (A : Around) (outer : List Env) (s : Shared) (H : Hp) (vs : List V) (Q : VK) (E : XK), Room k (A.deeper (envOfC qual (defScope st) s.heap.objs.size (He.fAd K p) (.ref (He.cT K p).1))) → sp vs H Q E →
      ∃ t, PSs (cxOf (L2.CX P w) P w K mg base N qual (defScope st) (He.fAd K p) (.ref (He.cT K p).1) A outer s H E) (defBody st) t ∧ t { nx := fun _ H' => Q .non H', rt := Q } (start N vs) H) : OkF P w K mg base (k + 1) (He.fAd K p) ps sp := by
  obtain ⟨fd, F⟩ := F
  exact ⟨⟨fd, fnFL F S len hbody, F.bindsN hbi⟩, F.kp⟩
end AL

namespace AL
open PySem PySem.Spec PyProof.Rows L2
/-! # the law's loop: the table, the law's own, the state of drawing -/
section
variable {K : PySem.W.Frag} {σ : L2.St} {H H' : Hp} {Q : VK} {D : Ends} {tb : TS} {ta : L2.TA} {j : Nat}
def ForOn (g : TG) (tb : TS) (D : Ends) (σ : L2.St) (J : It) (H1 : Hp) : Prop := ∃ W : Nat → Nat → L2.St → Hp → Prop, (∃ m, W 0 m σ H1) ∧ ∀ i m σ H, W i m σ H →
  (J.stop i H ∧ D.nx σ H) ∨ (J.go i H ∧ ∃ N : L2.St → Hp → Prop, (∀ σ' H', N σ' H' → ∃ m', m' < m ∧ W (i + 1) m' σ' H') ∧ ∀ x H', J.yld i H x H' → g x σ H' fun σ2 H2 => tb { D with nx := N, ct := N, bk := D.nx } σ2 H2)
theorem r_forRx (h : ta σ H fun vs H1 => ∃ jj : Int, vs = [.int jj] ∧ -(2 ^ 62) ≤ jj ∧ jj < 2 ^ 62 ∧ ForOn (gName j) tb D σ (Itr 0 jj.toNat) H1) : tFor (iRng1 ta) (gName j) tb D σ H := h
theorem r_rngOn {n : Nat} (hn : n ≤ 2000) (Pv : Nat → L2.St → Hp → Prop) (h0 : Pv 0 σ H)
    (hs : ∀ (i : Nat) σ' H', i < n → Pv i σ' H' → tb { D with nx := Pv (i + 1), ct := Pv (i + 1), bk := D.nx } (σ'.set j (some (.int (i : Int)))) H') (hd : ∀ σ' H', Pv n σ' H' → D.nx σ' H') :
    ∃ jj : Int, [V.int (n : Int)] = [.int jj] ∧ -(2 ^ 62) ≤ jj ∧ jj < 2 ^ 62 ∧ ForOn (gName j) tb D σ (Itr 0 jj.toNat) H := by
  refine ⟨(n : Int), rfl, by omega, by omega, ?_⟩
  have en : ((n : Int)).toNat = n := by omega
  rw [en]
  refine for_range (lo := 0) (n := n) Pv h0 (fun i σ' H' hi p => ?_) hd
  have e0 : (0 : Int) + (i : Int) = (i : Int) := Int.zero_add _
  rw [e0]
  exact hs i σ' H' hi p
/-- over a list just made -/
theorem r_forLx {tl : TE} {g : TG} (h : tl σ H fun x H1 => ∃ a, x = .ref a ∧ (∃ xs, SqL K H1 a xs) ∧ ForOn g tb D σ (Itl K a) H1) : tFor (iList K tl) g tb D σ H := h
theorem r_lstOn {a : Addr} {xs : List V} (hx : H a = some (.lst xs)) (Pv : Nat → L2.St → Hp → Prop) (h0 : Pv 0 σ H) (hl : ∀ i σ' H', i ≤ xs.length → Pv i σ' H' → SqL K H' a xs)
    (hs : ∀ i x σ' H', xs[i]? = some x → Pv i σ' H' → tb { D with nx := Pv (i + 1), ct := Pv (i + 1), bk := D.nx } (σ'.set j (some x)) H') (hd : ∀ σ' H', Pv xs.length σ' H' → D.nx σ' H') :
    ∃ b, V.ref a = .ref b ∧ (∃ xs, SqL K H b xs) ∧ ForOn (gName j) tb D σ (Itl K b) H := ⟨a, rfl, ⟨xs, SqL.of hx⟩, for_list Pv h0 hl hs hd⟩
end
/-! ### the script apart -/
section
variable {K : PySem.W.Frag} {H H' : Hp} {sc : Addr} {ns : List Int} {S : Addr → Prop}
theorem scF_of (h : SqL K H sc (ns.map V.int)) (hS : ∀ b, S b → H b = none) : ScF K sc ns S := by
  rcases h with (h | ⟨o, h⟩) | h
  · exact .inr fun z => by rw [hS _ z] at h; cases h
  · exact .inr fun z => by rw [hS _ z] at h; cases h
  · exact .inl fun H => .inr h
theorem scF_mono {S' : Addr → Prop} (h : ScF K sc ns S) (m : ∀ b, S' b → S b) : ScF K sc ns S' := h.elim .inl fun n => .inr fun z => n (m _ z)
end
/-! ### loose objects -/
def LA.moreP (D : LA) (S : Addr → Prop) : LA := { D with bad := fun b => D.bad b ∨ S b }
theorem LdAt.moreP {H H' : Hp} {D : LA} {T : Tb} {S R : Addr → Prop} (h : LdAt H D T) (hS : ∀ b, S b → H b = none) (f : Fr R H H') (h1 : ∀ b, R b → D.bad b) (h2 : ∀ b, D.has b → ¬ R b) (e : ∀ b, S b → H' b ≠ none) : LdAt H' (D.moreP S) T := by
  have h' := h.fr f h1 h2
  obtain ⟨as, a1, a2, a3⟩ := h'.lin
  obtain ⟨as0, b1, b2, b3⟩ := h.lin
  refine ⟨h'.dic, h'.own, h'.tim, h'.wan, h'.rou, ⟨as, a1, a2, fun i a ea => ⟨(a3 i a ea).1, fun z => ?_⟩⟩, h'.nd, fun b hb z => ?_, fun b hb => .inl (h.own_bad b hb), h.sz⟩
  · rcases z with z | z
    · exact (a3 i a ea).2 z
    · have e1 := f.old _ _ b1 (h2 _ (by simp [LA.has]))
      have e2 : H' D.li = some (.lst (as.map V.ref)) := a1
      rw [e1] at e2
      have e3 : as0.map V.ref = as.map V.ref := by
        have := Option.some.inj e2
        injection this
      have e4 : as0 = as := List.map_inj_right (fun x y q => V.ref.inj q) |>.mp e3
      have := (b3 i a (by rw [e4]; exact ea)).1
      rw [hS a z] at this
      cases this
  · rcases hb with hb | hb
    · exact h'.old b hb z
    · exact e b hb z
theorem LdAt.lessP {H : Hp} {D : LA} {T : Tb} {S : Addr → Prop} (h : LdAt H (D.moreP S) T) (ob : ∀ b, D.has b → D.bad b) : LdAt H D T := by
  obtain ⟨as, a1, a2, a3⟩ := h.lin
  exact ⟨h.dic, h.own, h.tim, h.wan, h.rou, ⟨as, a1, a2, fun i a ea => ⟨(a3 i a ea).1, fun z => (a3 i a ea).2 (.inl z)⟩⟩, h.nd, fun b hb => h.old b (.inl hb), ob, h.sz⟩
/-! ### the whole state -/
/-- what stands apart, once for all -/
structure LwS (K : PySem.W.Frag) (A : TA) (D : LA) (st sc : Addr) (ns : List Int) : Prop where
  ad : ∀ b, A.has b → ¬ D.has b
  ab : ∀ b, A.has b → D.bad b
  sb : D.bad st
  sd : ¬ D.has st
  sa : ¬ A.has st
  ob : ∀ b, D.has b → D.bad b
  bo : ∀ b, D.bad b → D.has b ∨ A.has b ∨ b = st
  fa : ScF K sc ns A.foot
  fd : ScF K sc ns D.foot
  fs : ScF K sc ns (Only1 st)
structure Lw (K : PySem.W.Frag) (A : TA) (D : LA) (st sc : Addr) (ns : List Int) (Ts : List (Addr × Str)) (T : Tb) (H : Hp) : Prop where
  tb : TbK K H A T
  ld : LdAt H D T
  st : StAt K H st sc ns
  ts : LamX.Tabs Ts H
  wf : T.Wf
section
variable {K : PySem.W.Frag} {A : TA} {D : LA} {st sc : Addr} {ns : List Int} {Ts : List (Addr × Str)} {T T' : Tb} {H H' : Hp}
theorem Lw.fr0 (h : Lw K A D st sc ns Ts T H) (f : Fr No H H') : Lw K A D st sc ns Ts T H' := ⟨h.tb.fr0 f, h.ld.fr0 f, h.st.fr0 f, tabs_fr h.ts f old_no, h.wf⟩
theorem Lw.frS (s : LwS K A D st sc ns) (h : Lw K A D st sc ns Ts T H) (f : Fr (Only1 st) H H') (hs : StAt K H' st sc ns) : Lw K A D st sc ns Ts T H' := by
  obtain ⟨xs, e⟩ := h.st.lst
  exact ⟨h.tb.fr f fun b hb z => s.sa (z ▸ hb), h.ld.fr f (fun b hb => hb ▸ s.sb) (fun b hb z => s.sd (z ▸ hb)), hs, tabs_fr h.ts f (old_one e), h.wf⟩
theorem Lw.bad_l (h : LdAt H D T) {b : Addr} (z : D.has b) : ∃ o, H b = some o ∧ ∀ ps, o ≠ .tbl ps := by
  unfold LA.has at z
  simp only [List.mem_cons, List.not_mem_nil, or_false] at z
  obtain ⟨as, a1, _⟩ := h.lin
  rcases z with e | e | e | e | e | e
  · rw [e]; exact ⟨_, h.dic, fun xs z => by cases z⟩
  · rw [e]; exact ⟨_, h.own, fun xs z => by cases z⟩
  · rw [e]; exact ⟨_, a1, fun xs z => by cases z⟩
  · rw [e]; exact ⟨_, h.tim, fun xs z => by cases z⟩
  · rw [e]; exact ⟨_, h.wan, fun xs z => by cases z⟩
  · rw [e]; exact ⟨_, h.rou, fun xs z => by cases z⟩
theorem Lw.bad_t (hT : TbK K H A T) {b : Addr} (z : A.has b) : ∃ o, H b = some o ∧ ∀ ps, o ≠ .tbl ps := by
  unfold TA.has at z
  simp only [List.mem_cons] at z
  rcases z with e | e | e | e | e | e | e
  · rw [e]; exact ⟨_, hT.ins, fun xs z => by cases z⟩
  · rw [e]; exact ⟨_, hT.lin, fun xs z => by cases z⟩
  · rw [e]; exact ⟨_, hT.own, fun xs z => by cases z⟩
  · rw [e]; exact ⟨_, hT.tim, fun xs z => by cases z⟩
  · rw [e]; exact ⟨_, hT.wan, fun xs z => by cases z⟩
  · rw [e]; exact ⟨_, hT.rou, fun xs z => by cases z⟩
  · obtain ⟨i, hi, e⟩ := List.mem_iff_getElem.mp e
    exact ⟨_, hT.each i b (by rw [List.getElem?_eq_getElem hi, e]), fun xs z => by cases z⟩
theorem Lw.bad (s : LwS K A D st sc ns) (h : Lw K A D st sc ns Ts T H) : ∀ b, D.bad b → ∃ o, H b = some o ∧ ∀ ps, o ≠ .tbl ps := fun b hb => by
  rcases s.bo b hb with z | z | z
  · exact Lw.bad_l h.ld z
  · exact Lw.bad_t h.tb z
  · rw [z]
    obtain ⟨xs, e⟩ := h.st.lst
    exact ⟨_, e, fun xs z => by cases z⟩
theorem Lw.new (s : LwS K A D st sc ns) (h : Lw K A D st sc ns Ts T H) {p : Addr} (hp : H p = none) : ¬ A.has p ∧ ¬ D.bad p ∧ p ≠ st ∧ ScF K sc ns (Only1 p) := by
  have hb : ¬ D.bad p := fun z => by
    obtain ⟨o, e, _⟩ := h.bad s p z
    rw [hp] at e
    cases e
  exact ⟨fun z => hb (s.ab _ z), hb, fun z => hb (z ▸ s.sb), scF_of h.st.sq fun b hb => by rw [show b = p from hb]; exact hp⟩
end
theorem ResAt.kind {H H0 : Hp} {v : V} {r : Except Wd Out} (h : ResAt H H0 v r) : (∃ b, v = .ref b ∧ H0 b = none ∧ ∃ xs, H b = some (.lst xs) ∧ xs.length ≤ 100) ∨ ((∀ b, v ≠ .ref b) ∧ ∃ a : String, kitB a "list" = some false ∧ ∀ (K : PySem.W.Frag) (H' : Hp), TyX K H' v (.type a)) := by
  cases r with
  | error w =>
    rw [show v = .str w.str from h]
    exact .inr ⟨(fun b z => by cases z), "str", by decide +kernel, fun K H' => .base (.str _)⟩
  | ok o =>
    cases o with
    | b x =>
      rw [show v = .bl x from h]
      exact .inr ⟨(fun b z => by cases z), "bool", by decide +kernel, fun K H' => .base (.bl _)⟩
    | o x =>
      rw [show v = oV x from h]
      cases x with
      | none => exact .inr ⟨(fun b z => by cases z), "NoneType", by decide +kernel, fun K H' => .base .non⟩
      | some n => exact .inr ⟨(fun b z => by cases z), "int", by decide +kernel, fun K H' => .base (.int _)⟩
    | g rs =>
      obtain ⟨p, rfl, h0, ⟨vs, h1, h2⟩, hl⟩ := h
      exact .inl ⟨p, rfl, h0, vs, h1, by rw [h2.len, gone_len]; exact hl⟩
/-! ### the deed is done, or refused -/
namespace Tb
theorem deedR_same {T : Tb} {dd : Deed} {w : Wd} (h : (T.deedR dd).1 = .error w) : (T.deedR dd).2 = T := by
  cases dd with
  | ask a l =>
    show (T.askR a l).2 = T
    cases q : T.askR a l with
    | mk r T' =>
      have h2 : (T.askR a l).1.map Out.b = .error w := h
      rw [q] at h2
      cases r with
      | error w' => rw [askR_same q]
      | ok o => cases h2
  | give a l =>
    show (T.giveR a l).2 = T
    cases q : T.giveR a l with
    | mk r T' =>
      have h2 : (T.giveR a l).1.map Out.o = .error w := h
      rw [q] at h2
      cases r with
      | error w' => rw [giveR_same q]
      | ok o => cases h2
  | leave a =>
    show (T.leaveR a).2 = T
    cases q : T.leaveR a with
    | mk r T' =>
      have h2 : (T.leaveR a).1.map Out.g = .error w := h
      rw [q] at h2
      cases r with
      | error w' => rw [leaveR_same q]
      | ok o => cases h2
theorem Wf.deedR {T : Tb} (W : T.Wf) (dd : Deed) : (T.deedR dd).2.Wf := by
  cases dd with
  | ask a l => exact W.askR
  | give a l => exact W.giveR
  | leave a => exact W.leaveR
end Tb
theorem r_kindDoes {K : PySem.W.Frag} {A : TA} {T : Tb} {p : Addr} {dd : Deed} {i j : Nat} {σ : L2.St} {H : Hp} {Q : VK} (hi : σ[i]? = some (some (.ref A.p))) (hj : σ[j]? = some (some (.ref p))) (hT : TbK K H A T) (hW : T.Wf) (hp : H p = some (.tup dd.vs))
    (q : ∀ v H', TbK K H' A (T.deedR dd).2 → ResAt H' H v (T.deedR dd).1 → Fr A.foot H H' → Q v H') : TKind K (fun E H' Q' => tCall (sp_Ldoes K) [] E (tCons (tVar i) (tCons (tVar j) tNil)) σ H' Q') H Q := by
  refine ⟨_, hi, _, hj, ?_⟩
  refine ⟨_, _, rfl, A, T, p, dd, rfl, rfl, hT, hW, hp, fun w ew => ?_, fun v o H' eo hT' ho f => ?_⟩
  · refine ⟨rfl, w, rfl, fun H2 f => q _ H2 ?_ ?_ f.up⟩
    · rw [Tb.deedR_same ew]; exact hT.fr0 f
    · rw [ew]; rfl
  · refine q v H' hT' ?_ f
    rw [eo]; exact ho
abbrev sp_law (Ts : List (Addr × Str)) (K : PySem.W.Frag) : Sp := sp1 fun x H Q E => ∃ sc, ∃ ns : List Int, x = .ref sc ∧ SqL K H sc (ns.map V.int) ∧ ns.length ≤ 63 ∧ LamX.Tabs Ts H ∧ ∀ H', Q (.bl true) H'
/-- a def's lambda's full name -/
def lamQ (qual : Str) (sc : Scope) : Str := (envOfC qual sc 0 0 .none).qual ++ "<lambda>"
/-- a suite's reading by another one -/
theorem pss_ofL {X : Cx} {ss : List Stmt} {u : TS} (m : ∀ D σ H, σ.length = X.N.length → u D σ H → ∃ t, PSs X ss t ∧ t D σ H) : PSs X ss u := ⟨fun pins s σ H D I hu => by
  obtain ⟨t, ht, q⟩ := m D σ H I.len hu
  exact ht.run pins s σ H D I q⟩
end AL

namespace AL
open PySem PySem.Spec PyProof.Rows L2
theorem op_isF {X : Cx} : OpR X (compareOp .Is) (fun x y H Q => ∃ b : Bool, y = .bl b ∧ Q (.bl (decide (x = .bl b))) H) := by
  intro pins s σ H x y v u Q I rx ry h
  obtain ⟨b, rfl, q⟩ := h
  cases (show u = Value.bool b from ry)
  have off : ∀ (v : Value), plainIs v (.bool b) = true → v ≠ Value.bool b → x ≠ .bl b → wpAny (model X.prog X.w) X.A (compareOp .Is v (.bool b)) (EP X pins σ Q) X.xe s := fun v hp hv hx => by
    rw [decide_eq_false hx] at q
    exact wpAny_is_other hp hv ⟨.bl false, H, I, rfl, q⟩
  cases x with
  | bl a =>
    cases (show v = Value.bool a from rx)
    by_cases e : a = b
    · subst e
      exact wpAny_is_self rfl ⟨.bl true, H, I, rfl, by simpa using q⟩
    · exact off _ rfl (fun z => e (Value.bool.inj z)) (fun z => e (V.bl.inj z))
  | non => cases (show v = Value.none from rx); exact off _ rfl (fun z => nomatch z) (fun z => nomatch z)
  | int i => obtain ⟨t, rfl⟩ := rx; exact off _ rfl (fun z => nomatch z) (fun z => nomatch z)
  | str i => obtain ⟨t, rfl⟩ := rx; exact off _ rfl (fun z => nomatch z) (fun z => nomatch z)
  | byt i => obtain ⟨t, rfl⟩ := rx; exact off _ rfl (fun z => nomatch z) (fun z => nomatch z)
  | flt i => obtain ⟨t, rfl⟩ := rx; exact off _ rfl (fun z => nomatch z) (fun z => nomatch z)
  | ref a => cases (show v = Value.ref a from rx); exact off _ rfl (fun z => nomatch z) (fun z => nomatch z)
  | ty n => cases (show v = Value.type n from rx); exact off _ rfl (fun z => nomatch z) (fun z => nomatch z)
/-! # law k03 -/
theorem turns_all (d : Nat → PyData) (n : Nat) : turns (fun _ => true) d n = (List.range n).map d := by
  unfold turns
  rw [List.filter_eq_self.mpr (fun _ _ => rfl)]
theorem lsat_nats {H : Hp} {p : Addr} {xs : List Nat} (h : LsAt H p (xs.map fun x : Nat => PyData.int (x : Int))) : H p = some (.lst (xs.map nV)) := by
  have e : (xs.map fun x : Nat => PyData.int (x : Int)) = (xs.map fun x : Nat => (x : Int)).map PyData.int := by rw [List.map_map]; rfl
  rw [e] at h
  have := h.ints
  rw [List.map_map] at this
  exact this
theorem td_os {H : Hp} : ∀ {os : List (Option Nat)} {vs : List V}, TdAll H vs (os.map oD) → vs = os.map oV
  | [], _, h => by cases h; rfl
  | o :: r, _, h => by
    cases h with
    | cons h1 h2 =>
      rw [td_os h2]
      cases o with
      | none => cases h1; rfl
      | some n => cases h1; rfl
theorem lsat_os {H : Hp} {p : Addr} {os : List (Option Nat)} (h : LsAt H p (os.map oD)) : H p = some (.lst (os.map oV)) := by
  obtain ⟨vs, h1, h2⟩ := h
  rw [h1, td_os h2]
theorem range_getD {α : Type} (xs : List α) (d : α) {n : Nat} (h : xs.length = n) : (List.range n).map (fun i => xs.getD i d) = xs := by
  subst h
  refine List.ext_getElem (by simp) fun i h1 h2 => ?_
  rw [List.getElem_map, List.getElem_range, List.getD_eq_getElem?_getD, List.getElem?_eq_getElem h2]
  rfl
theorem eqv_nats : ∀ xs ys : List Nat, PyData.eqvAll (xs.map fun x : Nat => PyData.int (x : Int)) (ys.map fun x : Nat => PyData.int (x : Int)) = decide (xs = ys)
  | [], [] => by simp [PyData.eqvAll]
  | [], y :: r => by simp [PyData.eqvAll]
  | x :: r, [] => by simp [PyData.eqvAll]
  | x :: r, y :: t => by
    have ih := eqv_nats r t
    simp only [List.map_cons, PyData.eqvAll, PyData.eqv, ih]
    by_cases h : x = y
    · subst h
      by_cases h2 : r = t <;> simp [h2]
    · have h3 : ((x : Int) == (y : Int)) = false := by simp; omega
      simp [h3, h]
theorem nats_dp' {K : PySem.W.Frag} {H : Hp} {xs : List Nat} {a : Addr} (h : H a = some (.lst (xs.map nV))) : Dp K H (.ref a) (.list (xs.map fun x : Nat => PyData.int (x : Int))) := nats_dp h
theorem r_eqNats {K : PySem.W.Frag} {H : Hp} {Q : VK} {a b : Addr} {xs ys : List Nat} (ha : H a = some (.lst (xs.map nV))) (hb : H b = some (.lst (ys.map nV))) (q : Q (.bl (decide (xs = ys))) H) : rEqD K (.ref a) (.ref b) H Q :=
  ⟨_, _, nats_dp ha, nats_dp hb, (nats_cmp _).shaped, (nats_cmp _).shaped, by
    have e : PyData.eqv (.list (xs.map fun x : Nat => PyData.int (x : Int))) (.list (ys.map fun x : Nat => PyData.int (x : Int))) = decide (xs = ys) := by
      simp only [PyData.eqv]
      exact eqv_nats xs ys
    rw [e]
    exact q⟩
theorem inV_nats {x : Nat} {xs : List Nat} : inV (nV x) (xs.map nV) = decide (x ∈ xs) := by
  induction xs with
  | nil => rfl
  | cons y r ih =>
    have e : inV (nV x) ((y :: r).map nV) = (eqV (nV y) (nV x) || inV (nV x) (r.map nV)) := by simp [inV]
    rw [e, ih]
    by_cases h : y = x
    · subst h
      simp [eqV, nV]
    · have h2 : eqV (nV y) (nV x) = false := by
        show ((y : Int) == (x : Int)) = false
        simp; omega
      have h3 : ¬ x = y := fun z => h z.symm
      simp [h2, h3]
theorem nats_flat (xs : List Nat) : (xs.map nV).all flatV = true := by simp [nV, flatV]
abbrev sp_Lnumbers (K : PySem.W.Frag) : Sp := sp1 fun x H Q _ => ∃ A T, x = .ref A.p ∧ TbK K H A T ∧ ∀ p a b H', H p = none → H a = none → H b = none → H' p = some (.tup [.ref a, .ref b]) → H' a = some (.lst (T.tim.map nV)) → H' b = some (.lst (T.rou.map nV)) → Fr No H H' → Q (.ref p) H'
abbrev sp_Lstands (K : PySem.W.Frag) : Sp := sp1 fun x H Q E => ∃ A T, x = .ref A.p ∧ TbK K H A T ∧ T.Wf ∧ ∀ H', Fr No H H' → Q (.bl true) H'
structure Tb.Chg (T T' : Tb) : Prop where
  n : T'.n = T.n
  m : T'.m = T.m
  ti1 : ∀ l, T'.ow l ≠ none → T'.ow l ≠ T.ow l → T'.ti l = T.ti l + 1
  ti0 : ∀ l, T'.ow l = none ∨ T'.ow l = T.ow l → T'.ti l = T.ti l
  ro1 : ∀ a, T'.wa a ≠ none → T.wa a = none → T'.ro a = T.ro a + 1
  ro0 : ∀ a, T'.wa a = none ∨ T.wa a ≠ none → T'.ro a = T.ro a
abbrev sp_Lchanged (K : PySem.W.Frag) : Sp := sp3 fun x y z H Q _ => ∃ (A : TA) (T T' : Tb) (b0 b1 p q c0 c1 : Addr), x = .ref p ∧ y = .ref A.p ∧ z = .ref q ∧ TbK K H A T' ∧ H p = some (.tup [.ref b0, .ref b1]) ∧ H b0 = some (.lst (T.tim.map nV)) ∧ H b1 = some (.lst (T.rou.map nV)) ∧
  H q = some (.tup [.ref c0, .ref c1]) ∧ H c0 = some (.lst (T.own.map oV)) ∧ H c1 = some (.lst (T.wan.map oV)) ∧ T.Sz ∧ T.Chg T' ∧ ∀ H', Fr No H H' → Q (.bl true) H'
namespace Tb
variable {T : Tb} {a l k : Nat}
theorem pass_ti1 (s : T.Sz) (hl : l < T.m) (h : T.heir l ≠ none) : (T.pass l).ti l = T.ti l + 1 := by
  cases q : T.ln l with
  | nil => exact absurd (show T.heir l = none by unfold heir; rw [q]; rfl) h
  | cons x r =>
    rw [pass_cons q, take_ti]
    have e2 : (((T.free l).line l r).stop x).tim.length = T.m := s.ti
    rw [e2, if_pos ⟨rfl, hl⟩]
    rfl
theorem pass_ti0 (h : l ≠ k ∨ T.heir l = none) : (T.pass l).ti k = T.ti k := by
  cases q : T.ln l with
  | nil => rw [pass_nil q]; rfl
  | cons x r =>
    rw [pass_cons q, take_ti]
    rcases h with h | h
    · rw [if_neg (fun z => h z.1)]; rfl
    · unfold heir at h; rw [q] at h; cases h
theorem pass_heir (s : T.Sz) (hl : l < T.m) (h : l ≠ k) : (T.pass l).heir k = T.heir k := by
  unfold heir
  rw [pass_ln (by rw [s.li]; exact hl), if_neg h]
theorem passAll_ow : ∀ (ls : List Nat) {T : Tb}, T.Sz → ls.Nodup → (∀ l ∈ ls, l < T.m) → ∀ k, (k ∈ ls → (passAll ls T).2.ow k = T.heir k) ∧ (k ∉ ls → (passAll ls T).2.ow k = T.ow k)
  | [], T, s, _, _, k => ⟨(fun h => by cases h), fun _ => rfl⟩
  | l :: r, T, s, nd, hm, k => by
    rw [List.nodup_cons] at nd
    have hl := hm l List.mem_cons_self
    obtain ⟨i1, i2⟩ := passAll_ow r (s.pass (l := l)) nd.2 (fun x hx => by rw [pass_m]; exact hm x (List.mem_cons_of_mem _ hx)) k
    refine ⟨fun h => ?_, fun h => ?_⟩
    · show (passAll r (T.pass l)).2.ow k = _
      rcases List.mem_cons.mp h with z | z
      · subst z
        rw [i2 nd.1, pass_ow hl, if_pos rfl]
      · rw [i1 z, pass_heir s hl (fun q => nd.1 (q ▸ z))]
    · show (passAll r (T.pass l)).2.ow k = _
      rw [List.mem_cons, not_or] at h
      rw [i2 h.2, pass_ow hl, if_neg (fun q => h.1 q.symm)]
theorem passAll_ti : ∀ (ls : List Nat) {T : Tb}, T.Sz → ls.Nodup → (∀ l ∈ ls, l < T.m) → ∀ k, (k ∈ ls → T.heir k ≠ none → (passAll ls T).2.ti k = T.ti k + 1) ∧ (k ∉ ls ∨ T.heir k = none → (passAll ls T).2.ti k = T.ti k)
  | [], T, s, _, _, k => ⟨(fun h => by cases h), fun _ => rfl⟩
  | l :: r, T, s, nd, hm, k => by
    rw [List.nodup_cons] at nd
    have hl := hm l List.mem_cons_self
    obtain ⟨i1, i2⟩ := passAll_ti r (s.pass (l := l)) nd.2 (fun x hx => by rw [pass_m]; exact hm x (List.mem_cons_of_mem _ hx)) k
    refine ⟨fun h hh => ?_, fun h => ?_⟩
    · show (passAll r (T.pass l)).2.ti k = _
      rcases List.mem_cons.mp h with z | z
      · subst z
        rw [i2 (.inl nd.1), pass_ti1 s hl hh]
      · have ne : l ≠ k := fun q => nd.1 (q ▸ z)
        rw [i1 z (by rw [pass_heir s hl ne]; exact hh), pass_ti0 (.inl ne)]
    · show (passAll r (T.pass l)).2.ti k = _
      by_cases z : l = k
      · subst z
        rw [i2 (.inl nd.1), pass_ti0 (.inr (h.resolve_left (fun q => q List.mem_cons_self)))]
      · rw [i2 (h.elim (fun q => .inl (fun w => q (List.mem_cons_of_mem _ w))) (fun q => .inr (by rw [pass_heir s hl z]; exact q))), pass_ti0 (.inl z)]
theorem passAll_wa : ∀ (ls : List Nat) {T : Tb}, T.Wf → (∀ l ∈ ls, l < T.m) → ∀ b, (passAll ls T).2.wa b ≠ none → (passAll ls T).2.wa b = T.wa b
  | [], T, _, _, b, _ => rfl
  | l :: r, T, W, hm, b, h => by
    have ih := passAll_wa r (W.pass (hm l List.mem_cons_self)) (fun x hx => by rw [pass_m]; exact hm x (List.mem_cons_of_mem _ hx)) b h
    have e : (passAll (l :: r) T).2.wa b = (T.pass l).wa b := ih
    rw [e] at h ⊢
    rw [pass_wa W] at h ⊢
    by_cases q : T.heir l = some b
    · rw [if_pos q] at h; exact absurd rfl h
    · rw [if_neg q]
theorem unwait_ti : (T.unwait a).ti k = T.ti k := by
  unfold unwait
  split <;> rfl
theorem heir_ne (W : T.Wf) (h : T.heir l ≠ none) : T.heir l ≠ T.ow l := by
  cases q : T.heir l with
  | none => exact absurd q h
  | some b => exact fun z => W.no b l (W.lw l b (heir_mem q)).2 z.symm
theorem chg_refl : T.Chg T := ⟨rfl, rfl, fun l _ h => absurd rfl h, fun l _ => rfl, fun a h1 h2 => absurd h2 h1, fun a _ => rfl⟩
theorem chg_take (s : T.Sz) (ha : a < T.n) (hl : l < T.m) (hf : T.ow l = none) : T.Chg (T.take a l) where
  n := take_n
  m := take_m
  ti1 := fun k h1 h2 => by
    rw [take_ow] at h1 h2
    by_cases h : l = k
    · subst h
      rw [take_ti, s.ti, if_pos ⟨rfl, hl⟩]
    · rw [if_neg (fun z => h z.1)] at h2
      exact absurd rfl h2
  ti0 := fun k h1 => by
    rw [take_ow] at h1
    by_cases h : l = k
    · subst h
      rw [if_pos ⟨rfl, hl⟩, hf] at h1
      rcases h1 with h1 | h1 <;> cases h1
    · rw [take_ti, if_neg (fun z => h z.1)]
  ro1 := fun b h1 h2 => absurd h2 h1
  ro0 := fun b _ => rfl
theorem chg_wait (s : T.Sz) (ha : a < T.n) (hw : T.wa a = none) : T.Chg (T.wait a l) where
  n := wait_n
  m := wait_m
  ti1 := fun k _ h => absurd rfl h
  ti0 := fun k _ => rfl
  ro1 := fun b h1 h2 => by
    rw [wait_wa] at h1
    by_cases h : a = b
    · subst h
      rw [wait_ro, s.ro, if_pos ⟨rfl, ha⟩]
    · rw [if_neg (fun z => h z.1)] at h1
      exact absurd h2 h1
  ro0 := fun b h1 => by
    rw [wait_wa] at h1
    by_cases h : a = b
    · subst h
      rw [if_pos ⟨rfl, ha⟩] at h1
      rcases h1 with h1 | h1
      · cases h1
      · exact absurd hw h1
    · rw [wait_ro, if_neg (fun z => h z.1)]
theorem chg_passAll {ls : List Nat} (W : T.Wf) (nd : ls.Nodup) (hm : ∀ l ∈ ls, l < T.m) : T.Chg (passAll ls T).2 where
  n := passAll_n ls T
  m := passAll_m ls T
  ti1 := fun k h1 h2 => by
    obtain ⟨o1, o2⟩ := passAll_ow ls W.sz nd hm k
    by_cases h : k ∈ ls
    · rw [o1 h] at h1
      exact (passAll_ti ls W.sz nd hm k).1 h h1
    · exact absurd (o2 h) h2
  ti0 := fun k h1 => by
    obtain ⟨o1, o2⟩ := passAll_ow ls W.sz nd hm k
    refine (passAll_ti ls W.sz nd hm k).2 ?_
    by_cases h : k ∈ ls
    · rw [o1 h] at h1
      rcases h1 with h1 | h1
      · exact .inr h1
      · by_cases q : T.heir k = none
        · exact .inr q
        · exact absurd h1 (heir_ne W q)
    · exact .inl h
  ro1 := fun b h1 h2 => absurd ((passAll_wa ls W hm b h1).trans h2) h1
  ro0 := fun b _ => passAll_ro ls T b
theorem chg_pass (W : T.Wf) (hl : l < T.m) : T.Chg (T.pass l) := chg_passAll (ls := [l]) W (by simp) (fun x hx => by rw [List.mem_singleton.mp hx]; exact hl)
theorem chg_leave (W : T.Wf) (ha : a < T.n) : T.Chg (T.leave a).2 := by
  have W1 := W.unwait ha
  have c : (T.unwait a).Chg (T.leave a).2 := chg_passAll (ls := (T.unwait a).held a) W1 held_nd (fun l hl => held_lt hl)
  refine ⟨leave_n, leave_m, fun l h1 h2 => ?_, fun l h1 => ?_, fun b h1 h2 => ?_, fun b h1 => ?_⟩
  · have := c.ti1 l h1 (by rw [unwait_ow]; exact h2)
    rw [this, unwait_ti]
  · have := c.ti0 l (by rw [unwait_ow]; exact h1)
    rw [this, unwait_ti]
  · have e : (T.leave a).2.wa b = (T.unwait a).wa b := passAll_wa _ W1 (fun l hl => held_lt hl) b h1
    rw [e, unwait_wa ha] at h1
    by_cases w : a = b
    · rw [if_pos w] at h1; exact absurd rfl h1
    · rw [if_neg w] at h1; exact absurd h2 h1
  · have : (T.leave a).2.ro b = (T.unwait a).ro b := passAll_ro _ _ b
    rw [this, unwait_ro]
theorem flat_len (W : T.Wf) : ∀ i, ((List.range i).flatMap T.ln).length ≤ 8 * i
  | 0 => by simp
  | i + 1 => by
    rw [List.range_succ, List.flatMap_append, List.length_append]
    have h1 := flat_len W i
    have h2 := W.len i
    simp only [List.flatMap_cons, List.flatMap_nil, List.append_nil]
    omega
theorem flat_mem {i : Nat} {x : Nat} (W : T.Wf) : x ∈ (List.range i).flatMap T.ln ↔ ∃ l, l < i ∧ T.wa x = some l ∧ x ∈ T.ln l := by
  rw [List.mem_flatMap]
  constructor
  · rintro ⟨l, h1, h2⟩
    exact ⟨l, List.mem_range.mp h1, (W.lw l x h2).2, h2⟩
  · rintro ⟨l, h1, _, h2⟩
    exact ⟨l, List.mem_range.mpr h1, h2⟩
theorem flat_nd (W : T.Wf) : ∀ i, ((List.range i).flatMap T.ln).Nodup
  | 0 => by simp
  | i + 1 => by
    rw [List.range_succ, List.flatMap_append, List.nodup_append]
    refine ⟨flat_nd W i, by simp only [List.flatMap_cons, List.flatMap_nil, List.append_nil]; exact W.nd i, fun x hx y hy z => ?_⟩
    subst z
    obtain ⟨l, h1, h2, _⟩ := (flat_mem W).mp hx
    simp only [List.flatMap_cons, List.flatMap_nil, List.append_nil] at hy
    have := (W.lw i x hy).2
    rw [h2] at this
    cases this
    omega
def waiting (T : Tb) : List Nat := (List.range T.n).filter fun a => decide (T.wa a ≠ none)
theorem flat_perm (W : T.Wf) : ((List.range T.m).flatMap T.ln).Perm T.waiting := by
  refine (List.perm_ext_iff_of_nodup (flat_nd W T.m) (List.nodup_range.filter _)).mpr fun x => ?_
  rw [flat_mem W]
  rw [List.mem_filter, List.mem_range, decide_eq_true_eq]
  constructor
  · rintro ⟨l, h1, h2, h3⟩
    exact ⟨(W.lw l x h3).1, by rw [h2]; simp⟩
  · rintro ⟨h1, h2⟩
    cases q : T.wa x with
    | none => exact absurd q h2
    | some l => exact ⟨l, (W.wl x l q).1, rfl, (W.wl x l q).2⟩
theorem waiting_of (W : T.Wf) {ns : List Int} (hp : ns.Perm (((List.range T.m).flatMap T.ln).map fun x : Nat => (x : Int))) (hs : ns.Pairwise (· ≤ ·)) : ns = T.waiting.map fun x : Nat => (x : Int) := by
  refine List.Perm.eq_of_pairwise (le := (· ≤ ·)) (fun _ _ _ _ a b => Int.le_antisymm a b) hs ?_ (hp.trans ((flat_perm W).map _))
  rw [List.pairwise_map]
  have h : (List.range T.n).Pairwise (· < ·) := List.pairwise_lt_range
  have h2 : T.waiting.Pairwise (· < ·) := h.filter _
  exact h2.imp fun q => by omega
theorem chg_deed (W : T.Wf) (dd : Deed) : T.Chg (T.deedR dd).2 := by
  cases dd with
  | ask x y =>
    show T.Chg (T.askR x y).2
    unfold askR
    split
    · exact chg_refl
    · rename_i hf
      obtain ⟨a, l, rfl, rfl, ha, hl⟩ := fault_none hf
      simp only [Int.toNat_natCast]
      split
      · exact chg_refl
      · rename_i h1
        split
        · exact chg_refl
        · split
          · rename_i h2 h3
            exact chg_take W.sz ha hl h3
          · exact chg_wait W.sz ha (by simpa using h1)
  | give x y =>
    show T.Chg (T.giveR x y).2
    unfold giveR
    split
    · exact chg_refl
    · rename_i hf
      obtain ⟨a, l, rfl, rfl, ha, hl⟩ := fault_none hf
      simp only [Int.toNat_natCast]
      split
      · exact chg_refl
      · split
        · exact chg_refl
        · exact chg_pass W hl
  | leave x =>
    show T.Chg (T.leaveR x).2
    unfold leaveR
    split
    · rename_i h
      obtain ⟨a, rfl, ha⟩ := isA_nat h
      simp only [Int.toNat_natCast]
      exact chg_leave W ha
    · exact chg_refl
end Tb
namespace Tb
variable {T : Tb} {a l k : Nat}
theorem passAll_ln : ∀ (ls : List Nat) {T : Tb}, T.Sz → ls.Nodup → (∀ l ∈ ls, l < T.m) → ∀ k, (k ∈ ls → (passAll ls T).2.ln k = (T.ln k).tail) ∧ (k ∉ ls → (passAll ls T).2.ln k = T.ln k)
  | [], T, s, _, _, k => ⟨(fun h => by cases h), fun _ => rfl⟩
  | l :: r, T, s, nd, hm, k => by
    rw [List.nodup_cons] at nd
    have hl := hm l List.mem_cons_self
    obtain ⟨i1, i2⟩ := passAll_ln r (s.pass (l := l)) nd.2 (fun x hx => by rw [pass_m]; exact hm x (List.mem_cons_of_mem _ hx)) k
    have pl : ∀ j, (T.pass l).ln j = if l = j then (T.ln l).tail else T.ln j := fun j => pass_ln (by rw [s.li]; exact hl)
    refine ⟨fun h => ?_, fun h => ?_⟩
    · show (passAll r (T.pass l)).2.ln k = _
      rcases List.mem_cons.mp h with z | z
      · subst z
        rw [i2 nd.1, pl, if_pos rfl]
      · rw [i1 z, pl, if_neg (fun q : l = k => nd.1 (q ▸ z))]
    · show (passAll r (T.pass l)).2.ln k = _
      rw [List.mem_cons, not_or] at h
      rw [i2 h.2, pl, if_neg (fun q => h.1 q.symm)]
theorem unwait_ln_sub (W : T.Wf) : ((T.unwait a).ln k).Sublist (T.ln k) := by
  cases q : T.wa a with
  | none => rw [unwait_none q]; exact List.Sublist.refl _
  | some l =>
    rw [unwait_some q, stop_ln, line_ln]
    by_cases h : l = k ∧ l < T.lin.length
    · rw [if_pos h, h.1]; exact List.erase_sublist
    · rw [if_neg h]; exact List.Sublist.refl _
/-- a lock that comes to one that waited for it -/
def Came (T T' : Tb) : Prop := ∀ l o, T'.ow l = some o → T.wa o = some l → ∃ r, (o :: r).Sublist (T.ln l) ∧ (T'.ln l).Sublist r
theorem came_same (W : T.Wf) {T' : Tb} (h : ∀ l o, T'.ow l = some o → T.ow l = some o ∨ T.wa o = none) : Came T T' := fun l o h1 h2 => by
  rcases h l o h1 with q | q
  · exact absurd q (W.no o l h2)
  · rw [q] at h2; cases h2
theorem came_passAll {ls : List Nat} (W : T.Wf) (nd : ls.Nodup) (hm : ∀ l ∈ ls, l < T.m) : Came T (passAll ls T).2 := fun l o h1 h2 => by
  by_cases h : l ∈ ls
  · rw [(passAll_ow ls W.sz nd hm l).1 h] at h1
    rw [(passAll_ln ls W.sz nd hm l).1 h]
    unfold heir at h1
    cases q : T.ln l with
    | nil => rw [q] at h1; cases h1
    | cons x r =>
      rw [q] at h1
      have : x = o := Option.some.inj h1
      subst this
      exact ⟨r, List.Sublist.refl _, List.Sublist.refl _⟩
  · rw [(passAll_ow ls W.sz nd hm l).2 h] at h1
    exact absurd h1 (W.no o l h2)
theorem came_leave (W : T.Wf) (ha : a < T.n) : Came T (T.leave a).2 := fun l o h1 h2 => by
  have W1 := W.unwait ha
  by_cases q : (T.unwait a).wa o = some l
  · obtain ⟨r, r1, r2⟩ := came_passAll (ls := (T.unwait a).held a) W1 held_nd (fun l hl => held_lt hl) l o h1 q
    exact ⟨r, r1.trans (unwait_ln_sub W), r2⟩
  · have e : a = o := by
      by_cases z : a = o
      · exact z
      · rw [unwait_wa ha, if_neg z] at q
        exact absurd h2 q
    subst e
    -- it would be its own heir
    obtain ⟨o1, o2⟩ := passAll_ow ((T.unwait a).held a) W1.sz held_nd (fun l hl => held_lt hl) l
    have h1' : (passAll ((T.unwait a).held a) (T.unwait a)).2.ow l = some a := h1
    by_cases z : l ∈ (T.unwait a).held a
    · rw [o1 z] at h1'
      have := (W1.lw l a (heir_mem h1')).2
      rw [unwait_wa ha, if_pos rfl] at this
      cases this
    · rw [o2 z, unwait_ow] at h1'
      exact absurd h1' (W.no a l h2)
/-- what a deed does to the lines -/
theorem deed_lines (W : T.Wf) (dd : Deed) : Came T (T.deedR dd).2 ∧ ((∀ k, ((T.deedR dd).2.ln k).Sublist (T.ln k)) ∧ (T.deedR dd).1 ≠ .ok (.b false) ∨ ∃ a l : Nat, dd = .ask (a : Int) (l : Int) ∧ a < T.n ∧ l < T.m ∧ T.wa a = none ∧ T.deedR dd = (.ok (.b false), T.wait a l)) := by
  cases dd with
  | ask x y =>
    show Came T (T.askR x y).2 ∧ ((∀ k, ((T.askR x y).2.ln k).Sublist (T.ln k)) ∧ (T.askR x y).1.map Out.b ≠ .ok (.b false) ∨ _)
    have hd : T.deedR (.ask x y) = ((T.askR x y).1.map Out.b, (T.askR x y).2) := rfl
    rw [hd]
    cases hf : T.fault x y with
    | some w =>
      rw [askR_err hf]
      exact ⟨came_same W fun l o h => .inl h, .inl ⟨fun k => List.Sublist.refl _, fun z => by cases z⟩⟩
    | none =>
      obtain ⟨a, l, rfl, rfl, ha, hl⟩ := fault_none hf
      rw [askR_nat ha hl]
      by_cases h1 : T.wa a ≠ none
      · rw [if_pos h1]
        exact ⟨came_same W fun l o h => .inl h, .inl ⟨fun k => List.Sublist.refl _, fun z => by cases z⟩⟩
      · rw [if_neg h1]
        have hw : T.wa a = none := by simpa using h1
        by_cases h2 : T.ow l = some a
        · rw [if_pos h2]
          exact ⟨came_same W fun l o h => .inl h, .inl ⟨fun k => List.Sublist.refl _, fun z => by cases z⟩⟩
        · rw [if_neg h2]
          by_cases h3 : T.ow l = none
          · rw [if_pos h3]
            refine ⟨came_same W fun k o h => ?_, .inl ⟨fun k => List.Sublist.refl _, fun z => by cases z⟩⟩
            have h : (T.take a l).ow k = some o := h
            rw [take_ow] at h
            by_cases z : l = k ∧ l < T.m
            · rw [if_pos z] at h
              cases h
              exact .inr hw
            · rw [if_neg z] at h
              exact .inl h
          · rw [if_neg h3]
            exact ⟨came_same W fun l o h => .inl h, .inr ⟨a, l, rfl, ha, hl, hw, rfl⟩⟩
  | give x y =>
    have hd : T.deedR (.give x y) = ((T.giveR x y).1.map Out.o, (T.giveR x y).2) := rfl
    rw [hd]
    cases hf : T.fault x y with
    | some w =>
      rw [giveR_err hf]
      exact ⟨came_same W fun l o h => .inl h, .inl ⟨fun k => List.Sublist.refl _, fun z => by cases z⟩⟩
    | none =>
      obtain ⟨a, l, rfl, rfl, ha, hl⟩ := fault_none hf
      rw [giveR_nat ha hl]
      by_cases h1 : T.wa a ≠ none
      · rw [if_pos h1]
        exact ⟨came_same W fun l o h => .inl h, .inl ⟨fun k => List.Sublist.refl _, fun z => by cases z⟩⟩
      · rw [if_neg h1]
        by_cases h2 : T.ow l ≠ some a
        · rw [if_pos h2]
          exact ⟨came_same W fun l o h => .inl h, .inl ⟨fun k => List.Sublist.refl _, fun z => by cases z⟩⟩
        · rw [if_neg h2]
          refine ⟨came_passAll (ls := [l]) W (by simp) (fun x hx => by rw [List.mem_singleton.mp hx]; exact hl), .inl ⟨fun k => ?_, fun z => by cases z⟩⟩
          show ((T.pass l).ln k).Sublist _
          rw [pass_ln (by rw [W.sz.li]; exact hl)]
          by_cases z : l = k
          · rw [if_pos z, z]; exact List.tail_sublist _
          · rw [if_neg z]; exact List.Sublist.refl _
  | leave x =>
    have hd : T.deedR (.leave x) = ((T.leaveR x).1.map Out.g, (T.leaveR x).2) := rfl
    rw [hd]
    by_cases hx : T.isA x
    · obtain ⟨a, rfl, ha⟩ := isA_nat hx
      rw [leaveR_nat ha]
      refine ⟨came_leave W ha, .inl ⟨fun k => ?_, fun z => by cases z⟩⟩
      have W1 := W.unwait ha
      obtain ⟨o1, o2⟩ := passAll_ln ((T.unwait a).held a) W1.sz held_nd (fun l hl => held_lt hl) k
      show ((passAll ((T.unwait a).held a) (T.unwait a)).2.ln k).Sublist _
      by_cases z : k ∈ (T.unwait a).held a
      · rw [o1 z]; exact (List.tail_sublist _).trans (unwait_ln_sub W)
      · rw [o2 z]; exact unwait_ln_sub W
    · have e : T.leaveR x = (.error .noAgent, T) := by unfold leaveR; rw [if_neg hx]
      rw [e]
      exact ⟨came_same W fun l o h => .inl h, .inl ⟨fun k => List.Sublist.refl _, fun z => by cases z⟩⟩
end Tb
/-! the dict of askings -/
structure AsAt (H : Hp) (ad : Addr) (T : Tb) (g : Nat → Nat) (t : Nat) : Prop where
  dic : ∃ kvs : List (Key × V), H ad = some (.dK kvs) ∧ kvs.length ≤ t ∧ ∀ l a, a ∈ T.ln l → valV kvs (.inl (a : Int)) = some (.int (g a : Int))
  lt : ∀ l a, a ∈ T.ln l → g a < t
  up : ∀ l, (T.ln l).Pairwise fun a b => g a < g b
theorem AsAt.fr {S : Addr → Prop} {H H' : Hp} {ad : Addr} {T : Tb} {g : Nat → Nat} {t : Nat} (h : AsAt H ad T g t) (f : Fr S H H') (n : ¬ S ad) : AsAt H' ad T g t := by
  obtain ⟨kvs, h1, h2, h3⟩ := h.dic
  exact ⟨⟨kvs, f.old _ _ h1 n, h2, h3⟩, h.lt, h.up⟩
theorem AsAt.ext {H H' : Hp} {ad : Addr} {T : Tb} {g : Nat → Nat} {t : Nat} (h : AsAt H ad T g t) (e : LamX.ExtN H H') : AsAt H' ad T g t := by
  obtain ⟨kvs, h1, h2, h3⟩ := h.dic
  exact ⟨⟨kvs, e _ _ h1 (fun ps z => by cases z), h2, h3⟩, h.lt, h.up⟩
theorem AsAt.sub {H : Hp} {ad : Addr} {T T' : Tb} {g : Nat → Nat} {t t' : Nat} (h : AsAt H ad T g t) (s : ∀ k, (T'.ln k).Sublist (T.ln k)) (ht : t ≤ t') : AsAt H ad T' g t' := by
  obtain ⟨kvs, h1, h2, h3⟩ := h.dic
  exact ⟨⟨kvs, h1, Nat.le_trans h2 ht, fun l a ha => h3 l a ((s l).subset ha)⟩, fun l a ha => Nat.lt_of_lt_of_le (h.lt l a ((s l).subset ha)) ht, fun l => (h.up l).sublist (s l)⟩
theorem putK_len (kvs : List (Key × V)) (k : Key) (v : V) : (putK kvs k v).length ≤ kvs.length + 1 := by
  unfold putK
  split
  · rw [List.length_map]; omega
  · simp
theorem AsAt.put {H : Hp} {ad : Addr} {T : Tb} {g : Nat → Nat} {t a l : Nat} (h : AsAt H ad T g t) (W : T.Wf) (ha : a < T.n) (hl : l < T.m) (hw : T.wa a = none) :
    ∃ kvs, H ad = some (.dK kvs) ∧ kvs.length ≤ t ∧ AsAt (upd H ad (.dK (putK kvs (.inl (a : Int)) (.int (t : Int))))) ad (T.wait a l) (fun x => if x = a then t else g x) (t + 1) := by
  obtain ⟨kvs, h1, h2, h3⟩ := h.dic
  have na : ∀ k, a ∉ T.ln k := fun k z => by
    have := (W.lw k a z).2
    rw [hw] at this; cases this
  have ln : ∀ k b, b ∈ (T.wait a l).ln k → (b ∈ T.ln k ∧ b ≠ a) ∨ b = a := fun k b hb => by
    rw [Tb.wait_ln] at hb
    by_cases z : l = k ∧ l < T.lin.length
    · rw [if_pos z] at hb
      rcases List.mem_append.mp hb with q | q
      · rw [z.1] at q
        exact .inl ⟨q, fun w => na k (w ▸ q)⟩
      · exact .inr (List.mem_singleton.mp q)
    · rw [if_neg z] at hb
      exact .inl ⟨hb, fun w => na k (w ▸ hb)⟩
  refine ⟨kvs, h1, h2, ⟨_, upd_same, Nat.le_trans (putK_len _ _ _) (by omega), fun k b hb => ?_⟩, fun k b hb => ?_, fun k => ?_⟩
  · rw [valV_put]
    rcases ln k b hb with ⟨q1, q2⟩ | q
    · rw [if_neg (fun z => q2 (by have := Sum.inl.inj z; omega))]
      show valV kvs _ = some (V.int ((if b = a then t else g b : Nat) : Int))
      rw [if_neg q2]
      exact h3 k b q1
    · subst q
      show (if _ then _ else _) = some (V.int ((if b = b then t else g b : Nat) : Int))
      rw [if_pos rfl, if_pos rfl]
  · show (if b = a then t else g b) < t + 1
    rcases ln k b hb with ⟨q1, q2⟩ | q
    · rw [if_neg q2]; have := h.lt k b q1; omega
    · rw [if_pos q]; omega
  · have old : (T.ln k).Pairwise fun x y => (if x = a then t else g x) < (if y = a then t else g y) := (h.up k).imp_of_mem fun {x y} hx hy q => by
      rw [if_neg (fun z : x = a => na k (z ▸ hx)), if_neg (fun z : y = a => na k (z ▸ hy))]
      exact q
    rw [Tb.wait_ln]
    by_cases z : l = k ∧ l < T.lin.length
    · rw [if_pos z, z.1, List.pairwise_append]
      refine ⟨old, by simp, fun x hx y hy => ?_⟩
      rw [List.mem_singleton.mp hy, if_pos rfl, if_neg (fun w : x = a => na k (w ▸ hx))]
      exact h.lt k x hx
    · rw [if_neg z]; exact old
section
variable {K : PySem.W.Frag} {σ : L2.St} {H : Hp} {Q : VK} {tt : TT} {te tl : TE} {vs : List Nat} {g : TG}
theorem r_lcLx (h : tl σ H fun x H1 => tLc (iList K (tC x)) g tt te vs σ H1 Q) : tLc (iList K tl) g tt te vs σ H Q := h
theorem r_dnew (h : ∀ p H', H p = none → H' p = some (.dK []) → Fr No H H' → Q (.ref p) H') : tDNewK σ H Q := r_new h
theorem r_dgInt {ad : Addr} {kvs : List (Key × V)} {a : Nat} {v : V} (e : H ad = some (.dK kvs)) (hv : valV kvs (.inl (a : Int)) = some v) (q : Q v H) : DgOn (.ref ad) (.int (a : Int)) H Q := by
  have := DGet.k (k := .inl (a : Int)) e
  rw [hv] at this
  exact ⟨ad, v, rfl, this, q⟩
end
/-- the check of the last loop of law k03 -/
def Chk (H : Hp) (ad : Addr) (T T' : Tb) : Prop := ∀ l o, T'.ow l = some o → T.wa o = some l → ∃ kvs : List (Key × V), H ad = some (.dK kvs) ∧ ∃ g : Nat → Nat, valV kvs (.inl (o : Int)) = some (.int (g o : Int)) ∧ ∀ b ∈ T'.ln l, valV kvs (.inl (b : Int)) = some (.int (g b : Int)) ∧ g o < g b
theorem Chk.fr {S : Addr → Prop} {H H' : Hp} {ad : Addr} {T T' : Tb} (h : Chk H ad T T') (f : Fr S H H') (n : ¬ S ad) : Chk H' ad T T' := fun l o h1 h2 => by
  obtain ⟨kvs, e, r⟩ := h l o h1 h2
  exact ⟨kvs, f.old _ _ e n, r⟩
theorem AsAt.chk {H : Hp} {ad : Addr} {T T' : Tb} {g : Nat → Nat} {t : Nat} (h : AsAt H ad T g t) (c : Tb.Came T T') : Chk H ad T T' := fun l o h1 h2 => by
  obtain ⟨kvs, e1, e2, e3⟩ := h.dic
  obtain ⟨r, r1, r2⟩ := c l o h1 h2
  have up := (h.up l).sublist r1
  rw [List.pairwise_cons] at up
  exact ⟨kvs, e1, g, e3 l o (r1.subset List.mem_cons_self), fun b hb => ⟨e3 l b (r1.subset (List.mem_cons_of_mem _ (r2.subset hb))), up.1 b (r2.subset hb)⟩⟩
section
variable {σ : L2.St} {H : Hp} {D : Ends} {td ty tv : TE}
theorem r_dputA (h : tv σ H fun v H1 => td σ H1 fun x H2 => ty σ H2 fun y H3 => ∃ a H4, x = .ref a ∧ DPut H3 a y v H4 ∧ D.nx σ H4) : sDPut td ty tv D σ H := h
end
theorem tabs_frD {H H' : Hp} {T : List (Addr × Str)} {ad : Addr} {kvs : List (Key × V)} (t : LamX.Tabs T H) (f : Fr (Only1 ad) H H') (e : H ad = some (.dK kvs)) : LamX.Tabs T H' := fun p hp => by
  obtain ⟨ps, h1, h2, h3⟩ := t p hp
  refine ⟨ps, f.old _ _ h1 (fun z => ?_), h2, fun pos cv hc => ?_⟩
  · rw [show p.1 = ad from z, e] at h1
    cases h1
  · obtain ⟨c, e1, e2⟩ := h3 pos cv hc
    refine ⟨c, e1, f.old _ _ e2 (fun z => ?_)⟩
    rw [show c = ad from z, e] at e2
    unfold LamX.CodeO at e2
    cases e2
end AL

namespace AL
open PySem PySem.Spec PyProof.Rows L2
theorem units1 {A : Around} {k : Nat} (hr : Room k A) : A.units + 65 < cLine := by
  have := hr.un
  omega
/-! # who waits for whom, rings: plain -/
namespace Tb
def nx (T : Tb) (a : Nat) : Option Nat := match T.wa a with
  | none => none
  | some l => T.ow l
/-- on from here, as long as there is one that was not met yet -/
def wk (T : Tb) : Nat → List Nat → Option Nat → List Nat × Option Nat
  | 0, f, h => (f, h)
  | _ + 1, f, none => (f, none)
  | k + 1, f, some b => if b ∈ f then (f, some b) else wk T k (f ++ [b]) (T.nx b)
def way (T : Tb) (a : Nat) : List Nat × Option Nat := wk T T.n [a] (T.nx a)
def chainT (T : Tb) (a : Nat) : List Nat := (T.way a).1
def mx : List Nat → Nat
  | [] => 0
  | a :: r => max a (mx r)
def ringAt (T : Tb) (a : Nat) : Option (List Nat) := if (T.way a).2 = some a ∧ mx (T.way a).1 = a then some (T.way a).1 else none
def ringsT (T : Tb) : List (List Nat) := (List.range T.n).filterMap T.ringAt
variable {T : Tb} {a b : Nat}
theorem nx_lt (W : T.Wf) (h : T.nx a = some b) : b < T.n := by
  unfold nx at h
  split at h
  · cases h
  · exact W.oh _ _ h
/-- what the loop keeps -/
structure Wk (T : Tb) (f : List Nat) (h : Option Nat) (R : List Nat × Option Nat) : Prop where
  nd : f.Nodup
  lt : ∀ x ∈ f, x < T.n
  hl : ∀ x, h = some x → x < T.n
  eq : wk T (T.n + 1 - f.length) f h = R
theorem Wk.len {f : List Nat} {h : Option Nat} {R : List Nat × Option Nat} (w : Wk T f h R) : f.length ≤ T.n := nodup_le w.nd w.lt
theorem Wk.stop0 {f : List Nat} {R : List Nat × Option Nat} (w : Wk T f none R) : R = (f, none) := by
  have := w.len
  have e := w.eq
  obtain ⟨k, hk⟩ : ∃ k, T.n + 1 - f.length = k + 1 := ⟨T.n - f.length, by omega⟩
  rw [hk] at e
  exact e.symm
theorem Wk.stop1 {f : List Nat} {R : List Nat × Option Nat} (w : Wk T f (some b) R) (hb : b ∈ f) : R = (f, some b) := by
  have := w.len
  have e := w.eq
  obtain ⟨k, hk⟩ : ∃ k, T.n + 1 - f.length = k + 1 := ⟨T.n - f.length, by omega⟩
  rw [hk] at e
  unfold wk at e
  rw [if_pos hb] at e
  exact e.symm
theorem Wk.step {f : List Nat} {R : List Nat × Option Nat} (W : T.Wf) (w : Wk T f (some b) R) (hb : b ∉ f) : Wk T (f ++ [b]) (T.nx b) R ∧ f.length + 1 ≤ T.n := by
  have hbn := w.hl b rfl
  have nd : (f ++ [b]).Nodup := by
    rw [List.nodup_append]
    exact ⟨w.nd, by simp, fun x hx y hy z => hb (by rw [List.mem_singleton.mp hy] at z; exact z ▸ hx)⟩
  have lt : ∀ x ∈ f ++ [b], x < T.n := fun x hx => by
    rcases List.mem_append.mp hx with q | q
    · exact w.lt x q
    · rw [List.mem_singleton.mp q]; exact hbn
  have l2 := nodup_le nd lt
  rw [List.length_append, List.length_singleton] at l2
  refine ⟨⟨nd, lt, fun x hx => nx_lt W hx, ?_⟩, l2⟩
  have e := w.eq
  obtain ⟨k, hk⟩ : ∃ k, T.n + 1 - f.length = k + 1 := ⟨T.n - f.length, by omega⟩
  rw [hk] at e
  unfold wk at e
  rw [if_neg hb] at e
  rw [List.length_append, List.length_singleton]
  have : T.n + 1 - (f.length + 1) = k := by omega
  rw [this]
  exact e
theorem Wk.init (W : T.Wf) (ha : a < T.n) : Wk T [a] (T.nx a) (T.way a) :=
  ⟨by simp, fun x hx => by rw [List.mem_singleton.mp hx]; exact ha, fun x hx => nx_lt W hx, by
    show wk T (T.n + 1 - 1) [a] (T.nx a) = wk T T.n [a] (T.nx a)
    rw [Nat.add_sub_cancel]⟩
/-- the law's chain begins one step ahead -/
theorem Wk.init0 (ha : a < T.n) (W : T.Wf) : Wk T [] (some a) (T.way a) :=
  ⟨by simp, (fun x hx => by cases hx), (fun x hx => by cases hx; exact ha), by
    show wk T (T.n + 1) [] (some a) = wk T T.n [a] (T.nx a)
    have e : wk T (T.n + 1) [] (some a) = if a ∈ ([] : List Nat) then ([], some a) else wk T T.n ([] ++ [a]) (T.nx a) := rfl
    rw [e, if_neg (by simp)]
    rfl⟩
theorem wk_ok (W : T.Wf) : ∀ (k : Nat) (f : List Nat) (h : Option Nat), f.Nodup → (∀ x ∈ f, x < T.n) → (∀ x, h = some x → x < T.n) → (∃ i z, f = i ++ [z] ∧ T.nx z = h) →
    (wk T k f h).1.Nodup ∧ (∀ x ∈ (wk T k f h).1, x < T.n) ∧ ∃ i z, (wk T k f h).1 = i ++ [z] ∧ T.nx z = (wk T k f h).2
  | 0, f, h, nd, lt, hl, la => ⟨nd, lt, la⟩
  | k + 1, f, none, nd, lt, hl, la => ⟨nd, lt, la⟩
  | k + 1, f, some b, nd, lt, hl, la => by
    by_cases hb : b ∈ f
    · have e : wk T (k + 1) f (some b) = (f, some b) := by
        show (if b ∈ f then (f, some b) else wk T k (f ++ [b]) (T.nx b)) = _
        rw [if_pos hb]
      rw [e]
      exact ⟨nd, lt, la⟩
    · have e : wk T (k + 1) f (some b) = wk T k (f ++ [b]) (T.nx b) := by
        show (if b ∈ f then (f, some b) else wk T k (f ++ [b]) (T.nx b)) = _
        rw [if_neg hb]
      rw [e]
      refine wk_ok W k (f ++ [b]) (T.nx b) ?_ (fun x hx => ?_) (fun x hx => nx_lt W hx) ⟨f, b, rfl, rfl⟩
      · rw [List.nodup_append]
        exact ⟨nd, by simp, fun x hx y hy z => hb (by rw [List.mem_singleton.mp hy] at z; exact z ▸ hx)⟩
      · rcases List.mem_append.mp hx with q | q
        · exact lt x q
        · rw [List.mem_singleton.mp q]; exact hl b rfl
theorem way_ok (W : T.Wf) (ha : a < T.n) : (T.way a).1.Nodup ∧ (∀ x ∈ (T.way a).1, x < T.n) ∧ ∃ i z, (T.way a).1 = i ++ [z] ∧ T.nx z = (T.way a).2 :=
  wk_ok W T.n [a] (T.nx a) (by simp) (fun x hx => by rw [List.mem_singleton.mp hx]; exact ha) (fun x hx => nx_lt W hx) ⟨[], a, rfl, rfl⟩
theorem le_mx : ∀ {xs : List Nat} {x : Nat}, x ∈ xs → x ≤ mx xs
  | y :: r, x, h => by
    unfold mx
    rcases List.mem_cons.mp h with q | q
    · rw [q]; exact Nat.le_max_left _ _
    · exact Nat.le_trans (le_mx q) (Nat.le_max_right _ _)
theorem mx_mem : ∀ {xs : List Nat}, xs ≠ [] → mx xs ∈ xs
  | [x], _ => by simp [mx]
  | x :: y :: r, _ => by
    have ih := mx_mem (xs := y :: r) (by simp)
    have e : mx (x :: y :: r) = max x (mx (y :: r)) := rfl
    rw [e]
    rcases Nat.le_total x (mx (y :: r)) with h | h
    · rw [Nat.max_eq_right h]; exact List.mem_cons_of_mem _ ih
    · rw [Nat.max_eq_left h]; exact List.mem_cons_self
theorem mx_int {xs : List Nat} {m : Int} (hm : m ∈ xs.map fun x : Nat => (x : Int)) (hb : ∀ y, y ∈ xs.map (fun x : Nat => (x : Int)) → y ≤ m) : m = (mx xs : Int) := by
  obtain ⟨x, hx, rfl⟩ := List.mem_map.mp hm
  have h1 := le_mx hx
  have h2 := hb _ (List.mem_map.mpr ⟨mx xs, mx_mem (fun z => by rw [z] at hx; cases hx), rfl⟩)
  omega
end Tb
section
variable {K : PySem.W.Frag} {σ : L2.St} {H : Hp} {Q : VK} {te : TE} {r : V → Hp → VK → Prop}
theorem r_un (h : te σ H fun x H1 => r x H1 Q) : tUn r te σ H Q := h
theorem r_rU {g : Int → V} {i : Int} (h : Q (g i) H) : rU g (.int i) H Q := ⟨i, rfl, h⟩
theorem r_maxN {p : Addr} {xs : List Nat} (e : H p = some (.lst (xs.map nV))) (h0 : xs ≠ []) (q : Q (.int (Tb.mx xs : Int)) H) : rMax K [.ref p] H Q := by
  refine ⟨p, xs.map (fun x : Nat => (x : Int)), rfl, ?_, ?_, fun m h1 h2 => ?_⟩
  · refine SqL.of ?_
    rw [e, List.map_map]
    rfl
  · rw [List.length_map]
    exact List.length_pos_iff.mpr h0
  · rw [Tb.mx_int h1 h2]
    exact q
theorem r_tupN {p : Addr} {xs : List V} (e : H p = some (.lst xs)) (q : ∀ t H', H t = none → H' t = some (.tup xs) → Fr No H H' → Q (.ref t) H') : rTupQ K [.ref p] H Q := ⟨p, xs, rfl, .inl ⟨SqL.of e, r_new q⟩⟩
theorem r_ixLast {p : Addr} {xs : List V} {v : V} (e : H p = some (.lst (xs ++ [v]))) (q : Q v H) : rIxL K (.ref p) (.int (-1)) H Q := ⟨p, _, _, _, rfl, rfl, SqL.of e, atI_last xs v, q⟩
end
/-! promises -/
abbrev sp_next_of (K : PySem.W.Frag) : Sp := sp2 fun x y H Q _ => ∃ A T, ∃ a : Nat, x = .ref A.p ∧ y = .int (a : Int) ∧ TbK K H A T ∧ T.Wf ∧ a < T.n ∧ Q (oV (T.nx a)) H
abbrev sp_chain (K : PySem.W.Frag) : Sp := sp2 fun x y H Q _ => ∃ A T, ∃ a : Nat, x = .ref A.p ∧ y = .int (a : Int) ∧ TbK K H A T ∧ T.Wf ∧ a < T.n ∧ ∀ p H', H p = none → H' p = some (.lst ((T.chainT a).map nV)) → Fr No H H' → Q (.ref p) H'
abbrev sp_ring_of (K : PySem.W.Frag) : Sp := sp2 fun x y H Q _ => ∃ A T, ∃ a : Nat, x = .ref A.p ∧ y = .int (a : Int) ∧ TbK K H A T ∧ T.Wf ∧ a < T.n ∧
  (∀ H', T.ringAt a = none → Fr No H H' → Q .non H') ∧ ∀ r p H', T.ringAt a = some r → H p = none → H' p = some (.tup (r.map nV)) → Fr No H H' → Q (.ref p) H'
def ringD (r : List Nat) : PyData := .tuple (r.map fun x : Nat => PyData.int (x : Int))
abbrev sp_rings (K : PySem.W.Frag) : Sp := sp1 fun x H Q _ => ∃ A T, x = .ref A.p ∧ TbK K H A T ∧ T.Wf ∧ ∀ p H', H p = none → LsAt H' p (T.ringsT.map ringD) → Fr No H H' → Q (.ref p) H'
/-- a fresh list is written -/
theorem Fr.mutL {H H1 : Hp} {p : Addr} {u : HO} (f : Fr No H H1) (h : H p = none) : Fr No H (upd H1 p u) := f.mut h
section
variable {K : PySem.W.Frag} {H : Hp} {Q : VK} {p : Addr} {b : Nat} {f : List Nat}
theorem r_notInL (e : H p = some (.lst (f.map nV))) (q : Q (.bl (!decide (b ∈ f))) H) : rIn K true (.int (b : Int)) (.ref p) H Q := ⟨p, _, rfl, .inl (SqL.of e), rfl, nats_flat _, by
  have ei : inV (V.int (b : Int)) (f.map nV) = decide (b ∈ f) := inV_nats
  rw [if_pos rfl, ei]
  exact q⟩
theorem r_inL (e : H p = some (.lst (f.map nV))) (q : Q (.bl (decide (b ∈ f))) H) : rIn K false (.int (b : Int)) (.ref p) H Q := ⟨p, _, rfl, .inl (SqL.of e), rfl, nats_flat _, by
  have ei : inV (V.int (b : Int)) (f.map nV) = decide (b ∈ f) := inV_nats
  rw [if_neg Bool.false_ne_true, ei]
  exact q⟩
end
theorem td_nats (H : Hp) : ∀ xs : List Nat, TdAll H (xs.map nV) (xs.map fun x : Nat => PyData.int (x : Int))
  | [] => .nil
  | x :: r => .cons (.int _) (td_nats H r)
theorem some_map {α : Type} : ∀ (xs : List α) (f : α → Option (List Nat)), ((xs.filter fun a => (f a).isSome).map fun a => match f a with | none => PyData.none | some r => ringD r) = (xs.filterMap f).map ringD
  | [], f => rfl
  | x :: r, f => by
    have ih := some_map r f
    cases q : f x with
    | none =>
      rw [List.filter_cons, q]
      simp only [Option.isSome_none, Bool.false_eq_true, if_false, List.filterMap_cons, q]
      exact ih
    | some y =>
      rw [List.filter_cons, q]
      simp only [Option.isSome_some, if_true, List.filterMap_cons, q, List.map_cons]
      rw [ih]
abbrev sp_is_ring (K : PySem.W.Frag) : Sp := sp2 fun x y H Q _ => ∃ A T d, x = .ref A.p ∧ TbK K H A T ∧ T.Wf ∧ Td H y d ∧ Cmp d ∧ ∀ H', Fr No H H' → Q (.bl ((T.ringsT.map ringD).any fun e => PyData.eqv e d)) H'
abbrev sp_Lnext (K : PySem.W.Frag) : Sp := sp2 fun x y H Q _ => ∃ D T, ∃ a : Nat, x = .ref D.d ∧ y = .int (a : Int) ∧ LdAt H D T ∧ T.Wf ∧ a < T.n ∧ Q (oV (T.nx a)) H
abbrev sp_Lchain (K : PySem.W.Frag) : Sp := sp2 fun x y H Q _ => ∃ D T, ∃ a : Nat, x = .ref D.d ∧ y = .int (a : Int) ∧ LdAt H D T ∧ T.Wf ∧ a < T.n ∧ ∀ p H', H p = none → H' p = some (.lst ((T.chainT a).map nV)) → Fr No H H' → Q (.ref p) H'
abbrev sp_Lrings (K : PySem.W.Frag) : Sp := sp1 fun x H Q _ => ∃ D T, x = .ref D.d ∧ LdAt H D T ∧ T.Wf ∧ ∀ p H', H p = none → LsAt H' p (T.ringsT.map ringD) → Fr No H H' → Q (.ref p) H'
theorem ringD_cmp (r : List Nat) : (ringD r).canLay0 = true ∧ (ringD r).depth ≤ 59 := by
  have h := nats_cmp r
  unfold ringD
  refine ⟨by simp only [PyData.canLay0]; exact h.1, ?_⟩
  simp only [PyData.depth]
  have := nats_depth r
  omega
theorem rings_cmp (rs : List (List Nat)) : CmpAll (rs.map ringD) := CmpAll.of fun d hd => by
  obtain ⟨r, _, rfl⟩ := List.mem_map.mp hd
  exact ringD_cmp r
/-- a table and the law's own, grown by deeds -/
abbrev sp_Lgrown (Tl : List (Addr × Str)) (K : PySem.W.Frag) : Sp := sp2 fun x y H Q _ => ∃ st sc ns, ∃ most : Nat, x = .ref st ∧ y = .int (most : Int) ∧ most ≤ 900 ∧ StAt K H st sc ns ∧ ScF K sc ns (Only1 st) ∧ LamX.Tabs Tl H ∧
  ∀ A D T p H', H' p = some (.tup [.ref A.p, .ref D.d]) → Lw K A D st sc ns Tl T H' → LwS K A D st sc ns → Q (.ref p) H'
end AL

namespace AL
open PySem PySem.Spec PyProof.Rows L2
/-! # t[::-1], t a tuple -/
theorem adj_rev (n : Nat) : Builtin.Slice.sliceAdjust none none (-1) (n : Int) = ((n : Int) - 1, -1) := by
  unfold Builtin.Slice.sliceAdjust
  simp
theorem places_rev (n : Nat) : Builtin.Slice.slicePlaces ((n : Int) - 1) (-1) (-1) = n := by
  unfold Builtin.Slice.slicePlaces
  rw [if_neg (by decide)]
  by_cases h : n = 0
  · subst h
    rfl
  · rw [if_pos (by omega)]
    have e : ((n : Int) - 1 - -1 - 1) / (- -1) + 1 = (n : Int) := by
      have e1 : (- -1 : Int) = 1 := by decide
      rw [e1, Int.ediv_one]
      omega
    rw [e]
    simp
theorem fm_congr {α β : Type} {f g : α → Option β} : ∀ {l : List α}, (∀ m ∈ l, f m = g m) → l.filterMap f = l.filterMap g
  | [], _ => rfl
  | x :: r, h => by
    rw [List.filterMap_cons, List.filterMap_cons, h x List.mem_cons_self, fm_congr fun m hm => h m (List.mem_cons_of_mem _ hm)]
theorem pick_rev (xs : Array Value) : ((List.range xs.size).filterMap fun (m : Nat) => xs[(((xs.size : Int) - 1) + (m : Int) * (-1)).toNat]?).toArray = xs.toList.reverse.toArray := by
  congr 1
  have e1 : (List.range xs.size).filterMap (fun (m : Nat) => xs[(((xs.size : Int) - 1) + (m : Int) * (-1)).toNat]?) = ((List.range xs.size).map fun k => xs.size - 1 - k).filterMap (xs[·]?) := by
    rw [List.filterMap_map]
    refine fm_congr fun m hm => ?_
    have hm' := List.mem_range.mp hm
    show _ = xs[xs.size - 1 - m]?
    have e2 : (((xs.size : Int) - 1) + (m : Int) * (-1)).toNat = xs.size - 1 - m := by omega
    rw [e2]
  rw [e1, PySem.W.krv_range, List.filterMap_reverse, PySem.W.krv_all]
section
open HT
variable {prog : Program} {w : World} {A : Around} {E : Value → Shared → Prop} {s : Shared}
theorem applied_rev {sl : Addr} {vl vu vs : Value} {n : Nat} {Q : Int × Int × Nat → Shared → Prop} (hs : s.heap.IsSliceOf sl vl vu vs) (pl : IsPart vl none) (pu : IsPart vu none) (ps : IsPart vs (some (-1)))
    (h : Q ((n : Int) - 1, -1, n) s) : wpAny (model prog w) A (Builtin.Slice.sliceApplied (.ref sl) (pure (n : Int))) Q E s := by
  obtain ⟨o, ho, hc, hd⟩ := id hs
  unfold Builtin.Slice.sliceApplied Builtin.Slice.sliceFields
  refine wpAny_bind (wpAny_bind (wpAny_field ho hd (x := vl) rfl (wpAny_bind (wpAny_field ho hd (x := vu) rfl
    (wpAny_bind (wpAny_field ho hd (x := vs) rfl (wpAny_pure ?_)))))))
  refine wpAny_bind (slicePart_ ps ?_)
  show wpAny _ _ (if ((-1 : Int) == 0) = true then _ else _) _ _ s
  rw [if_neg (by decide)]
  refine wpAny_bind (slicePart_ pl
    (wpAny_bind (slicePart_ pu (wpAny_bind (wpAny_pure ?_)))))
  show wpAny _ _ (match Builtin.Slice.sliceAdjust none none (-1) (n : Int) with | (lo, hi) => pure (lo, (-1 : Int), Builtin.Slice.slicePlaces lo hi (-1))) _ _ s
  rw [adj_rev]
  show wpAny _ _ (pure ((n : Int) - 1, (-1 : Int), Builtin.Slice.slicePlaces ((n : Int) - 1) (-1) (-1))) _ _ s
  rw [places_rev]
  exact wpAny_pure h
theorem getItem_tup_rev {t sl : Addr} {items : Array Value} {vl vu vs : Value} {Q : Value → Shared → Prop} (ht : IsTup s.heap t items) (hs : s.heap.IsSliceOf sl vl vu vs) (pl : IsPart vl none) (pu : IsPart vu none) (ps : IsPart vs (some (-1)))
    (h : Q (.ref s.heap.objs.size) { s with heap := s.heap.push { cls := .type "tuple", data := .seq items.toList.reverse.toArray } }) (hsz : items.size ≤ sizeLine) : wpAny (model prog w) A (getItem (.ref t) (.ref sl)) Q E s := by
  have ok : sizeOk (.seq items.toList.reverse.toArray) := by
    show items.toList.reverse.toArray.size ≤ sizeLine
    rw [List.size_toArray, List.length_reverse, Array.length_toList]
    exact hsz
  obtain ⟨o, ho, hc, hd⟩ := id hs
  have ty : s.TypeIs (.ref sl) "slice" := ⟨o, ho, hc⟩
  unfold getItem
  try with_reducible refine wpAny_holding ?_
  try refine wpAny_bind (wpAny_pure ?_)
  have tt := ht.typeIs
  refine wpAny_bind (wpAny_sequenceKey tt (by decide) ?_)
  refine wpAny_bind (wpAny_callSpecial?_slot (name := Str.ofString "__getitem__") tt slot_tuple_getitem
    (wpAny_call_entry slot_tuple_getitem tt entry_tuple_getitem ?_ (args_tuple_getitem _ _)))
  show wpAny _ _ (Builtin.Tuple.tupleItemsOf (.ref t) >>= fun z => _) _ _ s
  refine wpAny_bind (tupleItemsOf_ ht (wpAny_bind (wpAny_typeOf ty ?_)))
  rw [if_pos (by decide)]
  refine wpAny_bind (applied_rev hs pl pu ps ?_)
  have off : ¬ ((((items.size : Int) - 1) == 0 && (-1 : Int) == 1 && items.size == items.size) = true) := by
    intro q
    rw [Bool.and_eq_true, Bool.and_eq_true] at q
    exact absurd q.1.2 (by decide)
  show wpAny _ _ (if (((items.size : Int) - 1) == 0 && (-1 : Int) == 1 && items.size == items.size) = true then _ else _) _ _ s
  rw [if_neg off, pick_rev]
  first
    | exact wpAny_bind (m := Builtin.Tuple.tupleExact _) (wpAny_newObj_type (wpAny_pure ⟨_, rfl, wpAny_pure h⟩) ok)
    | exact wpAny_bind (m := Builtin.Tuple.tupleExact _) (wpAny_newObj_type (wpAny_bind (wpAny_pure (wpAny_pure ⟨_, rfl, wpAny_pure h⟩))) ok)
    | exact wpAny_bind (wpAny_bind (m := Builtin.Tuple.tupleExact _) (wpAny_newObj_type (wpAny_pure (wpAny_pure ⟨_, rfl, wpAny_pure h⟩)) ok))
    | exact wpAny_bind (wpAny_bind (m := Builtin.Tuple.tupleExact _) (wpAny_newObj_type (wpAny_pure ⟨_, rfl, wpAny_pure h⟩) ok))
end
section
variable {X : Cx}
def tRevT (K : PySem.W.Frag) (te : TE) : TE := fun σ H Q => te σ H fun x H1 => ∃ a xs, x = .ref a ∧ SqT K H1 a xs ∧ ∀ p, H1 p = none → Q (.ref p) (upd H1 p (.tup xs.reverse))
theorem pe_revT {e : Expr} {te : TE} {k : Nat} {p1 p2 p3 pos : Pos} (he : PE X e te) :
    PE X (.Subscript e (.Slice none none (some (.UnaryOp .USub (.Constant (.int 1) k p1) p2)) p3) pos) (tRevT X.K te) := by
  refine ⟨fun pins s σ H Q I h => ?_⟩
  refine Subscript_ (thn (he.run pins s σ H _ I h) fun v s1 ⟨x, H1, I1, r1, a, xs, ex, hx, q⟩ => ?_)
  subst ex
  cases r1
  have st : PO X (some (.UnaryOp .USub (.Constant (.int 1) k p1) p2)) (tPart (tUn (rU fun i => .int (-i)) (tC (.int 1)))) :=
    po_some (pe_un un_neg pe_int)
  refine wpAny_Slice (thn (po_none.run pins s1 σ H1 (fun z Hz => z = none ∧ Hz = H1) I1 ⟨rfl, rfl⟩)
    fun vl s2 ⟨l, H2, I2, pl, el, e2⟩ => ?_)
  subst el e2
  refine thn (po_none.run pins s2 σ H2 (fun z Hz => z = none ∧ Hz = H2) I2 ⟨rfl, rfl⟩)
    fun vu s3 ⟨u, H3, I3, pu, eu, e3⟩ => ?_
  subst eu e3
  refine thn (st.run pins s3 σ H3 (fun o H4 => o = some (-1) ∧ H4 = H3) I3 ⟨1, rfl, -1, rfl, rfl, rfl⟩) fun vs s4 ⟨o, H4, I4, ps, eo, e4⟩ => ?_
  subst eo e4
  have J : Inv X pins σ H4 { s4 with heap := s4.heap.push { cls := .type "slice", data := .fields #[vl, vu, vs] } } :=
    I4.kept (t' := s4.toks) fun b ob q => Heap.get?_push_of_some _ q
  obtain ⟨its, r, ht, hz⟩ := J.tuple hx
  have hl := r.length
  show wpAny (model X.prog X.w) X.A (subscriptTail e _ (.ref a) (.ref s4.heap.objs.size)) (EP X pins σ Q) X.xe _
  refine tail_any (ops := [.ref a, .ref s4.heap.objs.size]) ht.typeIs (PyProof.Rows.slot_tuple_getitem.lookup) ?_ (by with_unfolding_all rfl)
  refine getItem_tup_rev ht (Heap.IsSliceOf.new _ vl vu vs) pl pu ps ?_ (by rw [List.size_toArray]; omega)
  refine ⟨.ref _, _, J.laid (t' := s4.toks) (o := .tup xs.reverse) (fun b ob q => Heap.get?_push_of_some _ q) (Nat.le_refl _) ?_, rfl, q _ (J.hok.fresh (Nat.le_refl _))⟩
  exact ⟨by rw [List.length_reverse]; exact hz, _, r.reverse, IsTup.new _ _⟩
def RevOn (K : PySem.W.Frag) (x : V) (H1 : Hp) (Q : VK) : Prop := ∃ a xs, x = .ref a ∧ SqT K H1 a xs ∧ ∀ p, H1 p = none → Q (.ref p) (upd H1 p (.tup xs.reverse))
theorem r_revT {K : PySem.W.Frag} {σ : L2.St} {H : Hp} {Q : VK} {te : TE} (h : te σ H fun x H1 => RevOn K x H1 Q) : tRevT K te σ H Q := h
end
theorem k_revT {X : Cx} {K : PySem.W.Frag} {e : Expr} {te : TE} {k : Nat} {p1 p2 p3 pos : Pos} (hK : X.K = K) (he : PE X e te) : PE X (.Subscript e (.Slice none none (some (.UnaryOp .USub (.Constant (.int 1) k p1) p2)) p3) pos) (tRevT K te) := hK ▸ pe_revT he
/-! # tuples of ints -/
def IT (H : Hp) (v : V) (n : Nat) : Prop := ∃ (a : Addr) (xs : List Int), v = .ref a ∧ H a = some (.tup (xs.map V.int)) ∧ xs.length ≤ n
section
variable {K : PySem.W.Frag} {S : Addr → Prop} {H H' : Hp} {Q : VK} {v u : V} {n m : Nat}
theorem IT.fr (h : IT H v n) (f : Fr S H H') : IT H' v n := by
  obtain ⟨a, xs, e, h1, h2⟩ := h
  exact ⟨a, xs, e, f.tup _ _ h1, h2⟩
theorem IT.le (h : IT H v n) (l : n ≤ m) : IT H v m := by
  obtain ⟨a, xs, e, h1, h2⟩ := h
  exact ⟨a, xs, e, h1, Nat.le_trans h2 l⟩
theorem cut_map (xs : List Int) (lo hi : Option Int) : ∃ ys : List Int, cutV (xs.map V.int) lo hi = ys.map V.int ∧ ys.length ≤ xs.length := by
  unfold cutV
  refine ⟨(xs.drop (HT.sIx (xs.map V.int).length 0 lo)).take (HT.sIx (xs.map V.int).length (xs.map V.int).length hi - HT.sIx (xs.map V.int).length 0 lo), ?_, ?_⟩
  · rw [List.map_take, List.map_drop]
  · rw [List.length_take, List.length_drop]
    omega
theorem r_slIT {lo hi : Option Int} (h : IT H v n) (q : ∀ v' H', IT H' v' n → Fr No H H' → Q v' H') : rSlA K v lo hi H Q := by
  obtain ⟨a, xs, rfl, h1, h2⟩ := h
  refine ⟨a, _, rfl, SqT.of h1, fun _ => q _ H ⟨a, xs, rfl, h1, h2⟩ Fr.refl, fun _ p hp => ?_⟩
  obtain ⟨ys, e, hl⟩ := cut_map xs lo hi
  rw [e]
  exact q _ _ ⟨p, ys, rfl, upd_same, Nat.le_trans hl h2⟩ (Fr.new hp)
theorem r_revIT (h : IT H v n) (q : ∀ v' H', IT H' v' n → Fr No H H' → Q v' H') : RevOn K v H Q := by
  obtain ⟨a, xs, rfl, h1, h2⟩ := h
  refine ⟨a, _, rfl, SqT.of h1, fun p hp => q _ _ ⟨p, xs.reverse, rfl, ?_, ?_⟩ (Fr.new hp)⟩
  · rw [upd_same, List.map_reverse]
  · rw [List.length_reverse]; exact h2
theorem r_catIT (h : IT H v n) (g : IT H u m) (hl : n + m ≤ 2000) (q : ∀ v' H', IT H' v' (n + m) → Fr No H H' → Q v' H') : rCatA K v u H Q := by
  obtain ⟨a, xs, rfl, h1, h2⟩ := h
  obtain ⟨b, ys, rfl, g1, g2⟩ := g
  refine ⟨a, b, _, _, rfl, rfl, SqT.of h1, SqT.of g1, ?_, fun _ => q _ H ⟨b, ys, rfl, g1, by omega⟩ Fr.refl, fun _ _ => q _ H ⟨a, xs, rfl, h1, by omega⟩ Fr.refl, fun _ _ p hp => ?_⟩
  · rw [List.length_map, List.length_map]
    exact Nat.le_of_lt (small2000 (by omega))
  · exact q _ _ ⟨p, xs ++ ys, rfl, by rw [upd_same, List.map_append], by rw [List.length_append]; omega⟩ (Fr.new hp)
theorem r_tupIT {ns : List Int} {xs : List V} (e : xs = ns.map V.int) (hl : ns.length ≤ 2000) (q : ∀ v' H', IT H' v' ns.length → Fr No H H' → Q v' H') : NewT xs H Q := by
  subst e
  exact r_newT (by rw [List.length_map]; exact hl) fun p H' hp ep f => q _ H' ⟨p, ns, rfl, ep, Nat.le_refl _⟩ f
theorem IT.dd (h : IT H v n) (hn : n ≤ 2000) : ∃ xs : List Int, Td H v (.tuple (xs.map PyData.int)) ∧ xs.length ≤ n := by
  obtain ⟨a, xs, rfl, h1, h2⟩ := h
  exact ⟨xs, .tup h1 (int_td H xs), h2⟩
end
theorem td_ints_dd {H : Hp} : ∀ {r : List Nat} {vs : List V}, TdAll H vs (r.map fun x : Nat => PyData.int (x : Int)) → DdAll H vs (r.map fun x : Nat => PyData.int (x : Int))
  | [], _, h => by cases h; exact .nil
  | x :: r, _, h => by
    cases h with
    | cons h1 h2 => exact .cons (by cases h1; exact .int _) (td_ints_dd h2)
theorem td_ints_v {H : Hp} : ∀ {r : List Nat} {vs : List V}, TdAll H vs (r.map fun x : Nat => PyData.int (x : Int)) → vs = r.map nV
  | [], _, h => by cases h; rfl
  | x :: r, _, h => by
    cases h with
    | cons h1 h2 => rw [td_ints_v h2]; cases h1; rfl
theorem td_ring {H : Hp} {v : V} {r : List Nat} (h : Td H v (ringD r)) (hl : r.length ≤ 2000) : Dd H v (ringD r) := by
  cases h with
  | tup e a => exact .tup e (by rw [a.len, List.length_map]; exact hl) (td_ints_dd a)
theorem td_rings {H : Hp} : ∀ {rs : List (List Nat)} {vs : List V}, TdAll H vs (rs.map ringD) → (∀ r ∈ rs, r.length ≤ 2000) → DdAll H vs (rs.map ringD)
  | [], _, h, _ => by cases h; exact .nil
  | r :: rs, _, h, hl => by
    cases h with
    | cons h1 h2 => exact .cons (td_ring h1 (hl r List.mem_cons_self)) (td_rings h2 fun q hq => hl q (List.mem_cons_of_mem _ hq))
theorem rings_dd {H : Hp} {p : Addr} {rs : List (List Nat)} (h : LsAt H p (rs.map ringD)) (h1 : rs.length ≤ 2000) (h2 : ∀ r ∈ rs, r.length ≤ 2000) : Dd H (.ref p) (.list (rs.map ringD)) := by
  obtain ⟨vs, e, a⟩ := h
  exact .lst e (by rw [a.len, List.length_map]; exact h1) (td_rings a h2)
theorem rings_depth : ∀ rs : List (List Nat), PyData.depthAll (rs.map ringD) ≤ 1
  | [] => by simp [PyData.depthAll]
  | r :: rs => by
    have ih := rings_depth rs
    have e : (ringD r).depth = 1 := by
      unfold ringD
      simp only [PyData.depth, nats_depth]
    simp only [List.map_cons, PyData.depthAll, e]
    omega
namespace Tb
variable {T : Tb}
theorem ring_len (W : T.Wf) {a : Nat} {r : List Nat} (ha : a < T.n) (h : T.ringAt a = some r) : r.length ≤ 8 ∧ r ≠ [] := by
  unfold ringAt at h
  split at h
  · cases h
    obtain ⟨w1, w2, i, z, w3, _⟩ := way_ok W ha
    have := nodup_le w1 w2
    have := W.sz.n8
    exact ⟨by omega, by rw [w3]; simp⟩
  · cases h
theorem rings_len (W : T.Wf) : T.ringsT.length ≤ 8 ∧ ∀ r ∈ T.ringsT, r.length ≤ 8 ∧ r ≠ [] := by
  refine ⟨?_, fun r hr => ?_⟩
  · have h := List.length_filterMap_le T.ringAt (List.range T.n)
    rw [List.length_range] at h
    have := W.sz.n8
    unfold ringsT
    omega
  · obtain ⟨a, h1, h2⟩ := List.mem_filterMap.mp hr
    exact ring_len W (List.mem_range.mp h1) h2
end Tb
theorem r_rngI {ta : L2.TA} {σ : L2.St} {H : Hp} {R : It → Hp → Prop} (h : ta σ H fun vs H1 => ∃ j : Int, vs = [.int j] ∧ -(2 ^ 62) ≤ j ∧ j < 2 ^ 62 ∧ R (Itr 0 j.toNat) H1) : iRng1 ta σ H R := h
theorem ints_all : ∀ xs : List Int, PyData.canLayAll0 (xs.map PyData.int) = true ∧ PyData.depthAll (xs.map PyData.int) = 0
  | [] => by simp [PyData.canLayAll0, PyData.depthAll]
  | x :: r => by
    obtain ⟨h1, h2⟩ := ints_all r
    simp only [List.map_cons, PyData.canLayAll0, PyData.canLay0, PyData.depthAll, PyData.depth, h1, h2]
    decide
theorem ints_cmp (xs : List Int) : Cmp (.tuple (xs.map PyData.int)) := by
  obtain ⟨h1, h2⟩ := ints_all xs
  refine ⟨by simp only [PyData.canLay0]; exact h1, ?_⟩
  simp only [PyData.depth, h2]
  decide
end AL

namespace AL
open PySem PySem.Spec PyProof.Rows L2
/-! # rings: what the deeds do to them (no program in sight) -/
namespace Tb
variable {T T' : Tb} {a b c l : Nat}
/-- each of the row goes to the next one, the last to h -/
def Lk (T : Tb) : List Nat → Option Nat → Prop
  | [], _ => True
  | [x], h => T.nx x = h
  | x :: y :: r, h => T.nx x = some y ∧ Lk T (y :: r) h
theorem lk_snoc : ∀ {f : List Nat} {b : Nat} {h : Option Nat}, Lk T f (some b) → T.nx b = h → Lk T (f ++ [b]) h
  | [], b, h, _, e => e
  | [x], b, h, k, e => ⟨k, e⟩
  | x :: y :: r, b, h, k, e => ⟨k.1, lk_snoc (f := y :: r) k.2 e⟩
theorem wk_lk : ∀ (k : Nat) (f : List Nat) (h : Option Nat), Lk T f h → f ≠ [] → Lk T (wk T k f h).1 (wk T k f h).2 ∧ (wk T k f h).1.head? = f.head?
  | 0, f, h, w, _ => ⟨w, rfl⟩
  | k + 1, f, none, w, _ => ⟨w, rfl⟩
  | k + 1, f, some b, w, n => by
    by_cases hb : b ∈ f
    · have e : wk T (k + 1) f (some b) = (f, some b) := by
        show (if b ∈ f then (f, some b) else wk T k (f ++ [b]) (T.nx b)) = _
        rw [if_pos hb]
      rw [e]
      exact ⟨w, rfl⟩
    · have e : wk T (k + 1) f (some b) = wk T k (f ++ [b]) (T.nx b) := by
        show (if b ∈ f then (f, some b) else wk T k (f ++ [b]) (T.nx b)) = _
        rw [if_neg hb]
      rw [e]
      obtain ⟨h1, h2⟩ := wk_lk k (f ++ [b]) (T.nx b) (lk_snoc w rfl) (by simp)
      refine ⟨h1, h2.trans ?_⟩
      cases f with
      | nil => exact absurd rfl n
      | cons x r => rfl
/-- who goes round comes home -/
theorem wk_run : ∀ (g f : List Nat) (k : Nat), (f ++ g).Nodup → Lk T g (some a) → a ∈ f → g.length ≤ k → wk T k f (g.head?.or (some a)) = (f ++ g, some a)
  | [], f, k, _, _, ha, _ => by
    rw [List.append_nil]
    cases k with
    | zero => rfl
    | succ k =>
      show (if a ∈ f then (f, some a) else _) = _
      rw [if_pos ha]
  | b :: g, f, 0, _, _, _, hk => absurd hk (by simp)
  | b :: g, f, k + 1, nd, w, ha, hk => by
    have hb : b ∉ f := fun z => (List.nodup_append.mp nd).2.2 b z b List.mem_cons_self rfl
    have ea : f ++ b :: g = (f ++ [b]) ++ g := by simp
    show (if b ∈ f then (f, some b) else wk T k (f ++ [b]) (T.nx b)) = _
    rw [if_neg hb, ea]
    have en : T.nx b = g.head?.or (some a) ∧ Lk T g (some a) := by
      cases g with
      | nil => exact ⟨w, True.intro⟩
      | cons c r => exact ⟨w.1, w.2⟩
    rw [en.1]
    exact wk_run g (f ++ [b]) k (ea ▸ nd) en.2 (List.mem_append_left _ ha) (by simpa using hk)
/-- a ring -/
structure Ring (T : Tb) (r : List Nat) : Prop where
  nd : r.Nodup
  lt : ∀ x ∈ r, x < T.n
  ne : r ≠ []
  lk : Lk T r r.head?
  hd : r.head? = some (mx r)
theorem ringAt_iff (W : T.Wf) (ha : a < T.n) {r : List Nat} : T.ringAt a = some r ↔ T.Ring r ∧ r.head? = some a := by
  constructor
  · intro h
    unfold ringAt at h
    split at h
    · rename_i q
      have er := Option.some.inj h
      obtain ⟨w1, w2, i, z, w3, w4⟩ := way_ok W ha
      have wl := wk_lk T.n [a] (T.nx a) (show Lk T [a] (T.nx a) from rfl) (by simp)
      have wl' : Lk T (T.way a).1 (T.way a).2 ∧ (T.way a).1.head? = some a := wl
      rw [er] at w1 w2 w3 wl' q
      rw [q.1] at wl'
      refine ⟨⟨w1, w2, by rw [w3]; simp, by rw [wl'.2]; exact wl'.1, by rw [wl'.2, q.2]⟩, wl'.2⟩
    · cases h
  · rintro ⟨R, e⟩
    cases r with
    | nil => cases e
    | cons x g =>
      have ex : x = a := Option.some.inj e
      subst ex
      have en : T.nx x = g.head?.or (some x) ∧ Lk T g (some x) := by
        have := R.lk
        cases g with
        | nil => exact ⟨this, True.intro⟩
        | cons c r => exact ⟨this.1, this.2⟩
      have hl := nodup_le R.nd R.lt
      have ew : T.way x = (x :: g, some x) := by
        show wk T T.n [x] (T.nx x) = _
        rw [en.1]
        exact wk_run g [x] T.n R.nd en.2 List.mem_cons_self (by rw [List.length_cons] at hl; omega)
      unfold ringAt
      rw [ew, if_pos ⟨rfl, by have := Option.some.inj R.hd; exact this.symm⟩]
theorem mem_rings (W : T.Wf) {r : List Nat} : r ∈ T.ringsT ↔ T.Ring r := by
  unfold ringsT
  rw [List.mem_filterMap]
  constructor
  · rintro ⟨a, h1, h2⟩
    exact ((ringAt_iff W (List.mem_range.mp h1)).mp h2).1
  · intro R
    have e : r.head? = some (mx r) := R.hd
    have hm : mx r < T.n := R.lt _ (mx_mem R.ne)
    exact ⟨mx r, List.mem_range.mpr hm, (ringAt_iff W hm).mpr ⟨R, e⟩⟩
/-! ### closed ways -/
theorem lk_fwd {C : Nat → Prop} (hC : ∀ z w, C z → T.nx z = some w → C w) : ∀ {r : List Nat} {x : Nat} {h : Option Nat}, Lk T (x :: r) h → C x → (∀ y ∈ x :: r, C y) ∧ ∀ b, h = some b → C b
  | [], x, h, w, c => ⟨fun y hy => by rw [List.mem_singleton.mp hy]; exact c, fun b e => hC x b c (w.trans e)⟩
  | y :: r, x, h, w, c => by
    obtain ⟨h1, h2⟩ := lk_fwd hC (r := r) (x := y) w.2 (hC x y c w.1)
    exact ⟨fun z hz => (List.mem_cons.mp hz).elim (fun e => e ▸ c) (h1 z), h2⟩
theorem lk_mem {C : Nat → Prop} (hC : ∀ z w, C z → T.nx z = some w → C w) : ∀ {r : List Nat} {x : Nat} {h : Option Nat}, Lk T r h → x ∈ r → C x → ∀ b, h = some b → C b
  | y :: r, x, h, w, hx, c, b, e => by
    rcases List.mem_cons.mp hx with q | q
    · exact (lk_fwd hC w (q ▸ c)).2 b e
    · cases r with
      | nil => cases q
      | cons z r => exact lk_mem hC (r := z :: r) w.2 q c b e
theorem Ring.all {r : List Nat} (R : T.Ring r) {C : Nat → Prop} (hC : ∀ z w, C z → T.nx z = some w → C w) {x : Nat} (hx : x ∈ r) (c : C x) : ∀ y ∈ r, C y := by
  have h1 := lk_mem hC R.lk hx c _ R.hd
  cases r with
  | nil => cases hx
  | cons y g =>
    have e : y = mx (y :: g) := Option.some.inj R.hd
    exact (lk_fwd hC R.lk (e ▸ h1)).1
theorem lk_next : ∀ {r : List Nat} {x : Nat} {h : Option Nat}, Lk T r h → x ∈ r → (∃ y ∈ r, T.nx x = some y) ∨ T.nx x = h
  | [y], x, h, w, hx => by rw [List.mem_singleton.mp hx]; exact .inr w
  | y :: z :: r, x, h, w, hx => by
    rcases List.mem_cons.mp hx with q | q
    · exact .inl ⟨z, by simp, q ▸ w.1⟩
    · rcases lk_next (r := z :: r) w.2 q with ⟨u, hu, e⟩ | e
      · exact .inl ⟨u, List.mem_cons_of_mem _ hu, e⟩
      · exact .inr e
theorem Ring.next {r : List Nat} (R : T.Ring r) {x : Nat} (hx : x ∈ r) : ∃ y ∈ r, T.nx x = some y := by
  rcases lk_next R.lk hx with h | h
  · exact h
  · exact ⟨mx r, mx_mem R.ne, h.trans R.hd⟩
theorem Ring.waits {r : List Nat} (R : T.Ring r) {x : Nat} (hx : x ∈ r) : T.wa x ≠ none := fun z => by
  obtain ⟨y, _, e⟩ := R.next hx
  unfold nx at e
  rw [z] at e
  cases e
/-- rings with a common agent are one -/
theorem Ring.one (W : T.Wf) {r s : List Nat} (R : T.Ring r) (S : T.Ring s) {x : Nat} (hr : x ∈ r) (hs : x ∈ s) : r = s := by
  have cl : ∀ {q : List Nat}, T.Ring q → ∀ z w, z ∈ q → T.nx z = some w → w ∈ q := fun Q z w hz e => by
    obtain ⟨y, hy, e2⟩ := Q.next hz
    rw [e] at e2
    rw [Option.some.inj e2]; exact hy
  have h1 := R.all (C := (· ∈ s)) (cl S) hr hs
  have h2 := S.all (C := (· ∈ r)) (cl R) hs hr
  have e : mx r = mx s := Nat.le_antisymm (le_mx (h1 _ (mx_mem R.ne))) (le_mx (h2 _ (mx_mem S.ne)))
  have hm : mx r < T.n := R.lt _ (mx_mem R.ne)
  have e1 := (ringAt_iff W hm).mpr ⟨R, R.hd⟩
  have e2 := (ringAt_iff W hm).mpr ⟨S, by rw [e]; exact S.hd⟩
  rw [e1] at e2
  exact Option.some.inj e2
theorem lk_move : ∀ {r : List Nat} {h : Option Nat}, Lk T r h → (∀ x ∈ r, T'.nx x = T.nx x) → Lk T' r h
  | [], _, _, _ => True.intro
  | [x], h, w, e => (e x List.mem_cons_self).trans w
  | x :: y :: r, h, w, e => ⟨(e x List.mem_cons_self).trans w.1, lk_move (r := y :: r) w.2 fun z hz => e z (List.mem_cons_of_mem _ hz)⟩
theorem Ring.move {r : List Nat} (R : T.Ring r) (hn : T'.n = T.n) (e : ∀ x ∈ r, T'.nx x = T.nx x) : T'.Ring r := ⟨R.nd, fun x hx => by rw [hn]; exact R.lt x hx, R.ne, lk_move R.lk e, R.hd⟩
theorem filterMap_congr' {α β : Type} {f g : α → Option β} : ∀ {xs : List α}, (∀ a ∈ xs, f a = g a) → xs.filterMap f = xs.filterMap g
  | [], _ => rfl
  | x :: r, h => by
    rw [List.filterMap_cons, List.filterMap_cons, h x List.mem_cons_self, filterMap_congr' (xs := r) fun a ha => h a (List.mem_cons_of_mem _ ha)]
/-- rings by rings -/
theorem rings_filter (W : T.Wf) (W' : T'.Wf) (hn : T'.n = T.n) (p : List Nat → Bool) (h : ∀ r, T'.Ring r ↔ T.Ring r ∧ p r = true) : T'.ringsT = T.ringsT.filter p := by
  have key : ∀ a, a < T.n → T'.ringAt a = (T.ringAt a).filter p := fun a ha => by
    have ha' : a < T'.n := by rw [hn]; exact ha
    apply Option.ext
    intro r
    rw [ringAt_iff W' ha', h r, Option.filter_eq_some_iff, ringAt_iff W ha]
    constructor
    · rintro ⟨⟨h1, h2⟩, h3⟩; exact ⟨⟨h1, h3⟩, h2⟩
    · rintro ⟨⟨h1, h3⟩, h2⟩; exact ⟨⟨h1, h2⟩, h3⟩
  unfold ringsT
  rw [hn, List.filter_filterMap]
  exact filterMap_congr' fun a ha => key a (List.mem_range.mp ha)
theorem rings_same (W : T.Wf) (W' : T'.Wf) (hn : T'.n = T.n) (h : ∀ r, T'.Ring r ↔ T.Ring r) : T'.ringsT = T.ringsT := by
  rw [rings_filter W W' hn (fun _ => true) (fun r => by rw [h r]; simp), List.filter_eq_self.mpr fun _ _ => rfl]
/-! ### no agent in two -/
theorem apart_of : ∀ {xs : List Nat} {f : Nat → Option (List Nat)} {R : List Nat → List Nat → Prop}, xs.Nodup → (∀ a b r s, a ∈ xs → b ∈ xs → a ≠ b → f a = some r → f b = some s → R r s) → (xs.filterMap f).Pairwise R
  | [], _, _, _, _ => List.Pairwise.nil
  | x :: xs, f, R, nd, h => by
    obtain ⟨n1, n2⟩ := List.nodup_cons.mp nd
    have ih := apart_of (f := f) (R := R) n2 fun a b r s ha hb => h a b r s (List.mem_cons_of_mem _ ha) (List.mem_cons_of_mem _ hb)
    cases e : f x with
    | none => rw [List.filterMap_cons, e]; exact ih
    | some r =>
      rw [List.filterMap_cons, e]
      refine List.pairwise_cons.mpr ⟨fun s hs => ?_, ih⟩
      obtain ⟨b, hb, eb⟩ := List.mem_filterMap.mp hs
      exact h x b r s List.mem_cons_self (List.mem_cons_of_mem _ hb) (fun z => n1 (z ▸ hb)) e eb
theorem rings_apart (W : T.Wf) : T.ringsT.Pairwise fun r s => ∀ x ∈ r, x ∉ s := by
  unfold ringsT
  refine apart_of List.nodup_range fun a b r s ha hb hab hr hs x hx hy => ?_
  obtain ⟨R, e1⟩ := (ringAt_iff W (List.mem_range.mp ha)).mp hr
  obtain ⟨S, e2⟩ := (ringAt_iff W (List.mem_range.mp hb)).mp hs
  have e := Ring.one W R S hx hy
  rw [e, e2] at e1
  exact hab (Option.some.inj e1).symm
theorem nd_flat : ∀ {xs : List (List Nat)}, (∀ r ∈ xs, r.Nodup) → xs.Pairwise (fun r s => ∀ x ∈ r, x ∉ s) → xs.flatten.Nodup
  | [], _, _ => by simp
  | r :: xs, h, p => by
    obtain ⟨p1, p2⟩ := List.pairwise_cons.mp p
    rw [List.flatten_cons, List.nodup_append]
    refine ⟨h r List.mem_cons_self, nd_flat (fun s hs => h s (List.mem_cons_of_mem _ hs)) p2, fun x hx y hy z => ?_⟩
    obtain ⟨s, hs, hys⟩ := List.mem_flatten.mp hy
    exact p1 s hs x hx (z ▸ hys)
theorem rings_flat (W : T.Wf) : T.ringsT.flatten.Nodup := nd_flat (fun r hr => ((mem_rings W).mp hr).nd) (rings_apart W)
theorem flat_waits (W : T.Wf) {x : Nat} (h : x ∈ T.ringsT.flatten) : x < T.n ∧ T.wa x ≠ none := by
  obtain ⟨r, hr, hx⟩ := List.mem_flatten.mp h
  have R := (mem_rings W).mp hr
  exact ⟨R.lt x hx, R.waits hx⟩
theorem rflat_len (W : T.Wf) : T.ringsT.flatten.length ≤ 8 := Nat.le_trans (nodup_le (rings_flat W) fun x hx => (flat_waits W hx).1) W.sz.n8
/-! ### the deeds -/
theorem nx_wa {x k : Nat} (h : T.wa x = some k) : T.nx x = T.ow k := by unfold nx; rw [h]
theorem nx_non {x : Nat} (h : T.wa x = none) : T.nx x = none := by unfold nx; rw [h]
theorem nx_some {x y : Nat} (h : T.nx x = some y) : ∃ k, T.wa x = some k ∧ T.ow k = some y := by
  cases e : T.wa x with
  | none => rw [nx_non e] at h; cases h
  | some k => rw [nx_wa e] at h; exact ⟨k, rfl, h⟩
/-- a lock of one that waits for none is given -/
theorem ring_pass (W : T.Wf) (hl : l < T.m) (ho : T.ow l = some a) (hw : T.wa a = none) (r : List Nat) : (T.pass l).Ring r ↔ T.Ring r := by
  have notA : ∀ {r : List Nat}, T.Ring r → a ∉ r := fun R z => R.waits z hw
  have nxT : ∀ {x : Nat}, T.wa x ≠ some l → (T.pass l).nx x = T.nx x := fun {x} hx => by
    have e : (T.pass l).wa x = T.wa x := by
      rw [pass_wa W, if_neg]
      intro z
      exact hx (W.lw l x (heir_mem z)).2
    unfold nx
    rw [e]
    cases q : T.wa x with
    | none => rfl
    | some k =>
      show (T.pass l).ow k = T.ow k
      rw [pass_ow hl, if_neg]
      intro z
      rw [← z] at q
      exact hx q
  constructor
  · intro R
    refine R.move pass_n.symm fun x hx => ?_
    refine (nxT fun hxl => ?_).symm
    obtain ⟨y, hy, e⟩ := R.next hx
    obtain ⟨k, e1, e2⟩ := nx_some e
    rw [pass_wa W] at e1
    split at e1
    · cases e1
    rename_i q
    rw [hxl] at e1
    have ek : l = k := Option.some.inj e1
    rw [← ek, pass_ow hl, if_pos rfl] at e2
    refine R.waits hy ?_
    rw [pass_wa W, if_pos e2]
  · intro R
    refine R.move pass_n fun x hx => nxT fun hxl => ?_
    obtain ⟨y, hy, e⟩ := R.next hx
    rw [nx_wa hxl, ho] at e
    have ey : a = y := Option.some.inj e
    exact notA R (ey ▸ hy)
theorem ring_passAll : ∀ (ls : List Nat) {T : Tb}, T.Wf → ls.Nodup → (∀ l ∈ ls, l < T.m ∧ T.ow l = some a) → T.wa a = none → ∀ r, (passAll ls T).2.Ring r ↔ T.Ring r
  | [], T, W, _, _, _, r => Iff.rfl
  | k :: ls, T, W, nd, h, hw, r => by
    obtain ⟨n1, n2⟩ := List.nodup_cons.mp nd
    obtain ⟨h1, h2⟩ := h k List.mem_cons_self
    refine (ring_passAll ls (W.pass h1) n2 (fun l hl => ?_) ?_ r).trans (ring_pass W h1 h2 hw r)
    · obtain ⟨q1, q2⟩ := h l (List.mem_cons_of_mem _ hl)
      refine ⟨by rw [pass_m]; exact q1, ?_⟩
      rw [pass_ow h1, if_neg (fun z : k = l => n1 (z ▸ hl))]
      exact q2
    · rw [pass_wa W]
      split
      · rfl
      · exact hw
theorem ring_unwait (W : T.Wf) (ha : a < T.n) (r : List Nat) : (T.unwait a).Ring r ↔ T.Ring r ∧ a ∉ r := by
  have nxT : ∀ {x : Nat}, x ≠ a → (T.unwait a).nx x = T.nx x := fun {x} hx => by
    unfold nx
    rw [unwait_wa ha, if_neg (fun z => hx z.symm)]
    cases T.wa x with
    | none => rfl
    | some k => exact unwait_ow
  constructor
  · intro R
    have na : a ∉ r := fun z => R.waits z (by rw [unwait_wa ha, if_pos rfl])
    exact ⟨R.move unwait_n.symm fun x hx => (nxT fun z => na (z ▸ hx)).symm, na⟩
  · rintro ⟨R, na⟩
    exact R.move unwait_n fun x hx => nxT fun z => na (z ▸ hx)
theorem ring_leave (W : T.Wf) (ha : a < T.n) (r : List Nat) : (T.leave a).2.Ring r ↔ T.Ring r ∧ a ∉ r := by
  unfold leave
  refine (ring_passAll (a := a) _ (W.unwait ha) held_nd (fun l hl => ⟨held_lt hl, mem_held.mp hl⟩) ?_ r).trans (ring_unwait W ha r)
  rw [unwait_wa ha, if_pos rfl]
/-- a leaving makes just its own ring none -/
theorem rings_leave (W : T.Wf) (ha : a < T.n) : (T.leave a).2.ringsT = T.ringsT.filter fun r => decide (a ∉ r) :=
  rings_filter W (W.leave ha) leave_n _ fun r => by rw [ring_leave W ha r, decide_eq_true_eq]
theorem rings_give (W : T.Wf) {x y : Int} : (T.giveR x y).2.ringsT = T.ringsT := by
  cases h : T.fault x y with
  | some w => rw [giveR_err h]
  | none =>
    obtain ⟨a, l, rfl, rfl, ha, hl⟩ := fault_none h
    rw [giveR_nat ha hl]
    split
    · rfl
    · rename_i q1
      split
      · rfl
      · rename_i q2
        exact rings_same W (W.pass hl) pass_n (ring_pass W hl (Decidable.not_not.mp q2) (Decidable.not_not.mp q1))
theorem ring_take (W : T.Wf) (ha : a < T.n) (hf : T.ow l = none) (r : List Nat) : (T.take a l).Ring r ↔ T.Ring r := by
  have e : ∀ x, (T.take a l).nx x = T.nx x := fun x => by
    unfold nx
    rw [take_wa]
    cases q : T.wa x with
    | none => rfl
    | some k =>
      show (T.take a l).ow k = T.ow k
      rw [take_ow, if_neg]
      rintro ⟨z, _⟩
      rw [← z] at q
      exact W.lo l (List.ne_nil_of_mem (W.wl x l q).2) hf
  exact ⟨fun R => R.move rfl fun x _ => (e x).symm, fun R => R.move rfl fun x _ => e x⟩
theorem nx_wait (ha : a < T.n) {x : Nat} (hx : x ≠ a) : (T.wait a l).nx x = T.nx x := by
  unfold nx
  rw [wait_wa, if_neg (fun z => hx z.1.symm)]
  cases T.wa x <;> rfl
theorem ring_wait (W : T.Wf) (ha : a < T.n) (hw : T.wa a = none) (r : List Nat) : T.Ring r ↔ (T.wait a l).Ring r ∧ a ∉ r := by
  constructor
  · intro R
    have na : a ∉ r := fun z => R.waits z hw
    exact ⟨R.move wait_n fun x hx => nx_wait ha fun z => na (z ▸ hx), na⟩
  · rintro ⟨R, na⟩
    exact R.move wait_n.symm fun x hx => (nx_wait ha fun z => na (z ▸ hx)).symm
/-- an asking makes no ring none, and one at the most, of which the asker is -/
theorem rings_ask (W : T.Wf) {x : Nat} {y : Int} : (∀ r ∈ T.ringsT, r ∈ (T.askR x y).2.ringsT) ∧ (∀ r ∈ (T.askR x y).2.ringsT, r ∉ T.ringsT → x ∈ r) := by
  have W' := W.askR (x := x) (y := y)
  have key : (∀ r, T.Ring r → (T.askR x y).2.Ring r) ∧ (∀ r, (T.askR x y).2.Ring r → ¬ T.Ring r → x ∈ r) := by
    clear W'
    cases h : T.fault x y with
    | some w => rw [askR_err h]; exact ⟨fun r R => R, fun r R N => absurd R N⟩
    | none =>
      obtain ⟨a, l, ea, rfl, ha, hl⟩ := fault_none h
      have ea' : x = a := by omega
      subst ea'
      rw [askR_nat ha hl]
      split
      · exact ⟨fun r R => R, fun r R N => absurd R N⟩
      · rename_i q1
        split
        · exact ⟨fun r R => R, fun r R N => absurd R N⟩
        · split
          · rename_i q3
            exact ⟨fun r R => (ring_take W ha q3 r).mpr R, fun r R N => absurd ((ring_take W ha q3 r).mp R) N⟩
          · have k := ring_wait (l := l) W ha (Decidable.not_not.mp q1)
            refine ⟨fun r R => ((k r).mp R).1, fun r R N => ?_⟩
            by_cases z : x ∈ r
            · exact z
            · exact absurd ((k r).mpr ⟨R, z⟩) N
  exact ⟨fun r hr => (mem_rings W').mpr (key.1 r ((mem_rings W).mp hr)), fun r hr hn => key.2 r ((mem_rings W').mp hr) fun z => hn ((mem_rings W).mpr z)⟩
/-- of rings with a common agent there is one -/
theorem rings_le_one (W : T.Wf) {p : List Nat → Bool} (h : ∀ r ∈ T.ringsT, p r = true → a ∈ r) : (T.ringsT.filter p).length ≤ 1 := by
  have hp := (rings_apart W).filter p
  cases e : T.ringsT.filter p with
  | nil => simp
  | cons r q =>
    cases q with
    | nil => simp
    | cons s q =>
      rw [e] at hp
      have m : ∀ t ∈ r :: s :: q, a ∈ t := fun t ht => by
        rw [← e] at ht
        obtain ⟨h1, h2⟩ := List.mem_filter.mp ht
        exact h t h1 h2
      exact absurd (m s (by simp)) ((List.pairwise_cons.mp hp).1 s (by simp) a (m r (by simp)))
end Tb
end AL

namespace AL
open PySem PySem.Spec PyProof.Rows L2
/-! # min of a list of pairs of ints -/
section
variable {prog : Program} {w : World} {A : Around} {R : Result → Shared → Prop} {I S : Addr} {fp wr : List Addr} {n : Nat} {P : Nat → Value → Prop} {St : Nat → Heap → Prop} {bt : Nat → Nat → Bool} {G : Heap → Prop}
/-- what is compared may lean on what stands -/
def CmpT (prog : Program) (w : World) (A : Around) (G : Heap → Prop) (P : Nat → Value → Prop) (bt : Nat → Nat → Bool) : Prop :=
  ∀ (i j : Nat) (x y : Value) (s : Shared) (Q E : Value → Shared → Prop), G s.heap → P i x → P j y → Q (.bool (bt i j)) s → wpAny (model prog w) A (richCompare .Lt x y) Q E s
def Stays (wr : List Addr) (S : Addr) (G : Heap → Prop) : Prop := ∀ g g' : Heap, (∀ b o, b ∉ wr → b ≠ S → g.get? b = some o → g'.get? b = some o) → G g → G g'
def boxO (x : List Value) (c : Nat) : Obj := { cls := .type "list", dict := none, data := .seq x.toArray c, slots := #[] }
theorem minT_loop (W : Walks prog w A.in1 I fp wr n P St) (hc : CmpT prog w A.in1 G P bt) (hG : Stays wr S G) (hS : S ∉ fp) : ∀ (k j : Nat) (s : Shared) (v : Value) (c : Nat), n = j + 1 + k → St (j + 1) s.heap → G s.heap → P (argBest bt j) v →
    s.heap.get? S = some (boxO [v, v] c) → (∀ z g tk, P (argBest bt (n - 1)) z → (∀ b o, b ∉ wr → b ≠ S → s.heap.get? b = some o → g.get? b = some o) → R (.ok (.ret z)) { s with heap := g, toks := tk }) →
    codeAny (model prog w) A (.builtin "min.loop" ⟨[.ref I, .none, .ref S], []⟩) R s := by
  have nS : S ∉ wr := fun z => hS (W.sub S z)
  have nm : (toString "min" ++ toString ".loop" : String) = "min.loop" := by decide
  intro k
  induction k with
  | zero =>
    intro j s v c hn hst hg hv hb hR
    refine (codeAny_builtin F.entry_min_loop ?_)
    rw [Around.under_plainId F.plain_min_loop]
    refine (wpAny_bind (wpAny_seqItems (o := boxO _ c) hb rfl ?_))
    show wpAny (model prog w) A.in1 (tryCatch (pyNext (Value.ref I)) _ >>= _) _ _ s
    refine (wpAny_bind (wpAny_tryCatch (W.done _ _ _ (show St n s.heap from by rw [hn]; exact hst) fun g tk hk => ?_)))
    show wpAny (model prog w) A.in1 (updateSeq S (fun _ => #[]) >>= _) _ _ _
    refine (wpAny_bind (wpAny_updateSeq (hk S _ nS hb) rfl (wpAny_bind (wpAny_letGo (wpAny_pure ?_)))))
    exact hR v _ tk (by rw [show n - 1 = j from by omega]; exact hv) fun b o h1 h2 e => (Heap.get?_update_other _ _ fun z => h2 z.symm).trans (hk b o h1 e)
  | succ k ih =>
    intro j s v c hn hst hg hv hb hR
    refine (codeAny_builtin F.entry_min_loop ?_)
    rw [Around.under_plainId F.plain_min_loop]
    refine (wpAny_bind (wpAny_seqItems (o := boxO _ c) hb rfl ?_))
    show wpAny (model prog w) A.in1 (tryCatch (pyNext (Value.ref I)) _ >>= _) _ _ s
    refine (wpAny_bind (wpAny_tryCatch (W.item (j + 1) _ _ _ (by omega) hst fun u g tk hu hst2 hk => ?_)))
    have hb2 := hk S _ nS hb
    have hg2 : G g := hG _ _ (fun b o h1 _ e => hk b o h1 e) hg
    show wpAny (model prog w) A.in1 (tryCatch (holding [u, u] (richCompare .Lt u v >>= _)) _ >>= _) _ _ _
    refine (wpAny_bind (wpAny_tryCatch (wpAny_holding (wpAny_bind (hc (j + 1) (argBest bt j) u v _ _ _ hg2 hu hv ?_)))))
    refine (wpAny_bind (wpAny_holding (wpAny_truthy_bool ?_)))
    refine (wpAny_bind (wpAny_letGo (wpAny_pure ?_)))
    have eb : argBest bt (j + 1) = if bt (j + 1) (argBest bt j) = true then j + 1 else argBest bt j := rfl
    cases q : bt (j + 1) (argBest bt j) with
    | true =>
      rw [q, if_pos rfl] at eb
      simp only [if_true]
      refine (wpAny_bind (wpAny_updateSeq hb2 rfl (wpAny_bind (wpAny_letGo ?_))))
      rw [nm]
      have old : ∀ (f : Obj → Obj) b o, b ≠ S → g.get? b = some o → (g.update S f).get? b = some o := fun f b o h2 e => (Heap.get?_update_other _ _ fun z => h2 z.symm).trans e
      refine wpAny_pure ⟨plainId_quiet F.plain_min_loop _, ih (j + 1) _ u _ (by omega) (W.frame _ _ _ hst2 fun b hbf o e => old _ b o (fun z => hS (z ▸ hbf)) e) (hG _ _ (fun b o _ h2 e => old _ b o h2 e) hg2) (by rw [eb]; exact hu) (Heap.get?_update_self _ hb2 rfl) fun z g' tk' hz hk' => ?_⟩
      exact hR z g' tk' hz fun b o h1 h2 e => hk' b o h1 h2 (old _ b o h2 (hk b o h1 e))
    | false =>
      rw [q, if_neg Bool.false_ne_true] at eb
      simp only [Bool.false_eq_true, if_false]
      refine (wpAny_bind (wpAny_letGo ?_))
      rw [nm]
      refine wpAny_pure ⟨plainId_quiet F.plain_min_loop _, ih (j + 1) _ v c (by omega) hst2 hg2 (by rw [eb]; exact hv) hb2 fun z g' tk' hz hk' => ?_⟩
      exact hR z g' tk' hz fun b o h1 h2 e => hk' b o h1 h2 (hk b o h1 e)
theorem minT_first (W : Walks prog w A.in1 I fp wr n P St) (hc : CmpT prog w A.in1 G P bt) (hG : Stays wr S G) (hS : S ∉ fp) (hn : 0 < n) {s : Shared} {c : Nat} (hst : St 0 s.heap) (hg : G s.heap) (hb : s.heap.get? S = some (boxO [] c))
    (hR : ∀ z g tk, P (argBest bt (n - 1)) z → (∀ b o, b ∉ wr → b ≠ S → s.heap.get? b = some o → g.get? b = some o) → R (.ok (.ret z)) { s with heap := g, toks := tk }) :
    codeAny (model prog w) A (.builtin "min.loop" ⟨[.ref I, .none, .ref S], []⟩) R s := by
  have nS : S ∉ wr := fun z => hS (W.sub S z)
  have nm : (toString "min" ++ toString ".loop" : String) = "min.loop" := by decide
  refine (codeAny_builtin F.entry_min_loop ?_)
  rw [Around.under_plainId F.plain_min_loop]
  refine (wpAny_bind (wpAny_seqItems (o := boxO _ c) hb rfl ?_))
  show wpAny (model prog w) A.in1 (tryCatch (pyNext (Value.ref I)) _ >>= _) _ _ s
  refine (wpAny_bind (wpAny_tryCatch (W.item 0 _ _ _ hn hst fun u g tk hu hst2 hk => ?_)))
  have hb2 := hk S _ nS hb
  have hg2 : G g := hG _ _ (fun b o h1 _ e => hk b o h1 e) hg
  show wpAny (model prog w) A.in1 (updateSeq S (fun _ => #[u, u]) >>= _) _ _ _
  refine (wpAny_bind (wpAny_updateSeq hb2 rfl ?_))
  rw [nm]
  have old : ∀ (f : Obj → Obj) b o, b ≠ S → g.get? b = some o → (g.update S f).get? b = some o := fun f b o h2 e => (Heap.get?_update_other _ _ fun z => h2 z.symm).trans e
  refine wpAny_pure ⟨plainId_quiet F.plain_min_loop _, minT_loop W hc hG hS (n - 1) 0 _ u _ (by omega) (W.frame _ _ _ hst2 fun b hbf o e => old _ b o (fun z => hS (z ▸ hbf)) e) (hG _ _ (fun b o _ h2 e => old _ b o h2 e) hg2) hu (Heap.get?_update_self _ hb2 rfl) fun z g' tk' hz hk' => ?_⟩
  exact hR z g' tk' hz fun b o h1 h2 e => hk' b o h1 h2 (old _ b o h2 (hk b o h1 e))
end
section
variable {prog : Program} {w : World} {A : Around} {E : Value → Shared → Prop} {s : Shared}
theorem call_minT {x : Value} {Q : Value → Shared → Prop}
    (h : wpAny (model prog w) A.in1 (pyIter x) (fun it s2 => ∃ I fp wr n P St bt, ∃ G : Heap → Prop, it = .ref I ∧ Walks prog w A.in1 I fp wr n P St ∧ St 0 s2.heap ∧ (∀ b ∈ fp, b < s2.heap.objs.size) ∧ 0 < n ∧ CmpT prog w A.in1 G P bt ∧ G s2.heap ∧ Stays wr s2.heap.objs.size G ∧
      ∀ v g tk, P (argBest bt (n - 1)) v → (∀ b o, b ∉ wr → s2.heap.get? b = some o → g.get? b = some o) → Q v { s2 with heap := g, toks := tk }) E s) :
    wpAny (model prog w) A (call (.builtin "min") [x]) Q E s := by
  have nm : (toString "min" ++ toString ".loop" : String) = "min.loop" := by decide
  refine call_function_tree F.kind_min F.plain_min F.entry_min (F.args_min1 _) ((?_))
  show wpAny (model prog w) A.in1 (Builtin.Builtins.bindParams "min" ["key", "default"] 0 ⟨[], []⟩ >>= _) _ _ s
  refine wpAny_bind (wpAny_of_eq (show Builtin.Builtins.bindParams "min" ["key", "default"] 0 ⟨[], []⟩ = pure [none, none] from rfl) ((?_)))
  refine (wpAny_bind (wpAny_pure ?_))
  refine (wpAny_bind (wpAny_mono h (fun it s2 h2 => ?_) fun _ _ z => z))
  obtain ⟨I, fp, wr, n, P, St, bt, G, rfl, W, hst, hfp, hn, hc, hg, hG, hQ⟩ := h2
  refine (wpAny_bind (wpAny_newObj_type ?_))
  have hS : s2.heap.objs.size ∉ fp := fun z => Nat.lt_irrefl _ (hfp _ z)
  rw [nm]
  have old : ∀ (o' : Obj) b o, s2.heap.get? b = some o → (s2.heap.push o').get? b = some o := fun o' b o e => Heap.get?_push_of_some _ e
  refine wpAny_pure ⟨plainId_quiet F.plain_min_loop _, minT_first W hc hG hS hn (W.frame _ _ _ hst fun b _ o e => old _ b o e) (hG _ _ (fun b o _ _ e => old _ b o e) hg) (Heap.get?_push_size _ rfl) fun v g tk hv hk => ?_⟩
  exact hQ v g tk hv fun b o h1 e => hk b o h1 (Nat.ne_of_lt (Heap.lt_size e)) (old _ b o e)
end
/-! ### the rule -/
def ltP (p q : Int × Int) : Bool := if p.1 = q.1 then decide (p.2 < q.2) else decide (p.1 < q.1)
def leP (p q : Int × Int) : Prop := p.1 < q.1 ∨ (p.1 = q.1 ∧ p.2 ≤ q.2)
theorem leP_refl (p : Int × Int) : leP p p := .inr ⟨rfl, Int.le_refl _⟩
theorem leP_trans {p q r : Int × Int} (h : leP p q) (g : leP q r) : leP p r := by
  unfold leP at *
  omega
theorem ltP_true {p q : Int × Int} (h : ltP p q = true) : leP p q := by
  unfold ltP at h
  unfold leP
  split at h
  · have := of_decide_eq_true h; omega
  · have := of_decide_eq_true h; omega
theorem ltP_false {p q : Int × Int} (h : ltP p q = false) : leP q p := by
  unfold ltP at h
  unfold leP
  split at h
  · have := of_decide_eq_false h; omega
  · have := of_decide_eq_false h; omega
theorem best_le (f : Nat → Int × Int) : ∀ k, argBest (fun i j => ltP (f i) (f j)) k ≤ k ∧ ∀ i, i ≤ k → leP (f (argBest (fun i j => ltP (f i) (f j)) k)) (f i)
  | 0 => ⟨Nat.le_refl _, fun i hi => by rw [Nat.le_zero.mp hi]; exact leP_refl _⟩
  | k + 1 => by
    obtain ⟨h1, h2⟩ := best_le f k
    have e : argBest (fun i j => ltP (f i) (f j)) (k + 1) = if ltP (f (k + 1)) (f (argBest (fun i j => ltP (f i) (f j)) k)) = true then k + 1 else argBest (fun i j => ltP (f i) (f j)) k := rfl
    rw [e]
    split
    · rename_i q
      refine ⟨Nat.le_refl _, fun i hi => ?_⟩
      by_cases z : i = k + 1
      · rw [z]; exact leP_refl _
      · exact leP_trans (ltP_true q) (h2 i (by omega))
    · rename_i q
      refine ⟨Nat.le_succ_of_le h1, fun i hi => ?_⟩
      by_cases z : i = k + 1
      · rw [z]; exact ltP_false (by simpa using q)
      · exact h2 i (by omega)
/-- what min of a list of pairs is to be told -/
def rMinP (K : PySem.W.Frag) : List V → Hp → VK → Prop := fun vs H Q => ∃ (a : Addr) (xs : List V) (ps : List (Int × Int)), vs = [.ref a] ∧ SqL K H a xs ∧ xs.length = ps.length ∧ ps ≠ [] ∧
  (∀ (i : Nat) x p, xs[i]? = some x → ps[i]? = some p → ∃ t, x = .ref t ∧ SqT K H t [.int p.1, .int p.2]) ∧ ∀ (i : Nat) x p, xs[i]? = some x → ps[i]? = some p → (∀ q ∈ ps, leP p q) → Q x H
theorem cr_minP {X : Cx} (hc : X.calm = true) (hu : X.A.units + 1 < cLine) : CallR X (.builtin "min") (rMinP X.K) := by
  intro pins s σ H vs us Q J r h
  obtain ⟨a, xs, ps, rfl, hs, hl, hne, hp, q⟩ := h
  obtain ⟨its, rv, hls, _⟩ := J.list hs
  rw [Vals.ref1 r]
  have el := rv.length
  have hpos : 0 < ps.length := List.length_pos_iff.mpr hne
  let f : Nat → Int × Int := fun i => ps.getD i (0, 0)
  have old : ∀ {g : Heap} {I : Addr}, I = s.heap.objs.size → (∀ b o, b ∉ [I] → (s.heap.push { cls := .type "list_iterator", data := .fields #[.ref a, .int 0 0] }).get? b = some o → g.get? b = some o) → ∀ b o, s.heap.get? b = some o → g.get? b = some o := fun {g I} eI hk b o e => by
    refine hk b o (fun z => ?_) (Heap.get?_push_of_some _ e)
    have := Heap.lt_size e
    rw [List.mem_singleton.mp z, eI] at this
    exact Nat.lt_irrefl _ this
  have hlt : a < s.heap.objs.size := by obtain ⟨_, e, _⟩ := hls.isList; exact Heap.lt_size e
  have hh : X.A.handled = none := J.ok.hd hc
  refine call_minT (wpAny_pyIter_list hls.isList ?_)
  refine ⟨s.heap.objs.size, _, _, _, _, _, fun i j => ltP (f i) (f j), fun g => ∀ b o, s.heap.get? b = some o → g.get? b = some o, rfl, Walks.list (A := X.A.in1) hh _ a (Nat.ne_of_lt hlt) its.toArray, ⟨⟨_, Heap.get?_push_size _ rfl, rfl, rfl⟩, hls.isList.push _⟩, fun b hb => ?_, ?_, ?_, fun b o e => Heap.get?_push_of_some _ e, ?_, fun v g tk hv hk => ?_⟩
  · show b < (s.heap.push _).objs.size
    rw [Heap.size_push]
    simp only [List.mem_cons, List.not_mem_nil, or_false] at hb
    rcases hb with e | e
    · rw [e]; exact Nat.lt_succ_self _
    · rw [e]; exact Nat.lt_succ_of_lt hlt
  · rw [List.size_toArray]; omega
  · intro i j x y s2 Q2 E2 hg hx hy hq
    have at_ : ∀ (i : Nat) (x : Value), its.toArray[i]? = some x → ∃ t its2, x = .ref t ∧ s2.heap.IsTuple t (List.toArray its2) ∧ Vals [.int (f i).1, .int (f i).2] its2 ∧ i < ps.length := fun i x hx => by
      rw [List.getElem?_toArray] at hx
      have hi : i < its.length := (List.getElem?_eq_some_iff.mp hx).1
      have hi2 : i < xs.length := by omega
      have hi3 : i < ps.length := by omega
      obtain ⟨t, et, ht⟩ := hp i xs[i] (f i) (List.getElem?_eq_getElem hi2) (getD_some hi3)
      obtain ⟨u, eu, ru⟩ := rv.get (List.getElem?_eq_getElem hi2)
      rw [hx] at eu
      cases eu
      rw [et] at ru
      cases ru
      obtain ⟨its2, r2, ⟨o, e1, e2⟩, _⟩ := J.tuple ht
      exact ⟨t, its2, rfl, ⟨o, hg _ _ e1, e2⟩, r2, hi3⟩
    obtain ⟨t1, i1, rfl, k1, r1, l1⟩ := at_ i x hx
    obtain ⟨t2, i2, rfl, k2, r2, l2⟩ := at_ j y hy
    obtain ⟨m1, m2, rfl⟩ := Vals.int2 r1
    obtain ⟨m3, m4, rfl⟩ := Vals.int2 r2
    have R := Ob.RcOp.tuples_lt (A := X.A.in1) (s := s2) (e := fun z => if z = 0 then (f i).1 == (f j).1 else (f i).2 == (f j).2) (r := fun z => if z = 0 then decide ((f i).1 < (f j).1) else decide ((f i).2 < (f j).2)) k1 k2 hu
      (fun z h1 h2 => by
        match z, h1, h2 with
        | 0, _, _ => exact SeqAt.EqAt.int_int _ _ _ _
        | 1, _, _ => exact SeqAt.EqAt.int_int _ _ _ _
        | z + 2, h1, _ => exact absurd h1 (by show ¬ z + 2 < 2; omega))
      (fun z h1 h2 _ => by
        match z, h1, h2 with
        | 0, _, _ => exact Ob.RcOp.lt_int _ _ _ _
        | 1, _, _ => exact Ob.RcOp.lt_int _ _ _ _
        | z + 2, h1, _ => exact absurd h1 (by show ¬ z + 2 < 2; omega))
    refine R _ _ E2 Q2 ?_
    have el : Ob.lexAt (fun z => if z = 0 then (f i).1 == (f j).1 else (f i).2 == (f j).2) (fun z => if z = 0 then decide ((f i).1 < (f j).1) else decide ((f i).2 < (f j).2)) (decide (2 < 2)) 0 (min 2 2) = ltP (f i) (f j) := by
      show Ob.lexAt _ _ _ 0 2 = _
      unfold ltP
      simp only [Ob.lexAt]
      by_cases z : (f i).1 = (f j).1
      · by_cases z2 : (f i).2 = (f j).2 <;> simp [z, z2]
      · simp [z]
    exact el.symm ▸ hq
  · intro g g' hk hg b o e
    have hb := Heap.lt_size e
    refine hk b o (fun z => ?_) (fun z => ?_) (hg b o e)
    · rw [List.mem_singleton.mp z] at hb
      exact Nat.lt_irrefl _ hb
    · have : b = (s.heap.push { cls := Value.type "list_iterator", data := .fields #[.ref a, .int 0 0] }).objs.size := z
      rw [Heap.size_push] at this
      rw [this] at hb
      exact absurd hb (Nat.not_lt_of_le (Nat.le_succ _))
  · have hk' := old rfl hk
    obtain ⟨h1, h2⟩ := best_le f (its.toArray.size - 1)
    have hlt2 : argBest (fun i j => ltP (f i) (f j)) (its.toArray.size - 1) < ps.length := by
      rw [List.size_toArray] at h1 ⊢
      omega
    have hx2 : argBest (fun i j => ltP (f i) (f j)) (its.toArray.size - 1) < xs.length := by omega
    obtain ⟨u, eu, ru⟩ := rv.get (List.getElem?_eq_getElem hx2)
    rw [List.getElem?_toArray, eu] at hv
    cases hv
    refine ⟨_, H, J.kept hk', ru, q _ _ _ (List.getElem?_eq_getElem hx2) (getD_some (d := (0, 0)) hlt2) fun p hpm => ?_⟩
    obtain ⟨i, hi, rfl⟩ := List.mem_iff_getElem.mp hpm
    have := h2 i (by rw [List.size_toArray]; omega)
    have e : f i = ps[i] := by
      show ps.getD i (0, 0) = _
      rw [List.getD_eq_getElem?_getD, List.getElem?_eq_getElem hi]
      rfl
    rw [e] at this
    exact this
theorem k_minP {X : Cx} {K : PySem.W.Frag} (hK : X.K = K) (hc : X.calm = true) (hu : X.A.units + 64 < cLine) : CallR X (.builtin "min") (rMinP K) := hK ▸ cr_minP hc (by omega)
end AL

namespace AL
open PySem PySem.Spec PyProof.Rows L2
/-! # l.extend(t) of a tuple -/
theorem ext_tup (l : Addr) (us : Array Value) (n : Nat) (b : Addr) (ws : Array Value) (k : Nat) (dd : Option Addr) (sl : Array (Option Value)) (h0 : ¬(!us.isEmpty && Builtin.List.listTooLong (us.size + ws.size)) = true) (h1 : us.size ≤ sizeLine) (h2 : us.size + ws.size ≤ sizeLine + 1) :
    Meets (Builtin.«list.extend» ⟨[.ref l, .ref b], []⟩) (fun _ R s => s.heap.get? l = some { cls := .type "list", dict := none, data := .seq us n, slots := #[] } ∧ s.heap.get? b = some { cls := .type "tuple", dict := dd, data := .seq ws k, slots := sl } ∧
      R (.ok (.ret Value.none)) { s with heap := s.heap.update l (Obj.mapSeq fun x => x ++ ws), toks := s.toks }) :=
  .of_wp fun prog w A R s h => by
    obtain ⟨hp, g, d, tk, os⟩ := s
    obtain ⟨hl, hb, h⟩ := h
    have f1 := AutoSeq1.idx_int
    have f2 := AutoSeq1.sub_tuple_tuple
    have f3 := AutoSeq1.sub_list_list
    have f4 := AutoSeq1.sub_tuple_list
    have f5 := AutoSeq1.sub_list_tuple
    have hz : (us ++ ws).size ≤ sizeLine + 1 := by
      rw [Array.size_append]
      exact h2
    wp_walk using (wpAny_updateSeq hl rfl (hz := h1) (_hz' := hz)), AutoSeq1.wpAny_loadPart' hl, AutoSeq1.wpAny_loadPart' hb
    exact ⟨_, rfl, h⟩
def rExtT (K : PySem.W.Frag) : V → List V → Hp → VK → Prop := fun x vs H Q => ∃ l b xs zs, x = .ref l ∧ vs = [.ref b] ∧ H l = some (.lst xs) ∧ SqT K H b zs ∧ xs.length + zs.length ≤ sizeLine ∧ Q .non (upd H l (.lst (xs ++ zs)))
theorem mt_extT {X : Cx} : MtR X "list.extend" (rExtT X.K) := by
  intro pins s σ H x vs v us Q J rx rv h
  obtain ⟨l, b, xs, zs, rfl, rfl, hH, hB, hz, q⟩ := h
  cases rx
  obtain ⟨u, rfl, ru⟩ := rv.one
  cases ru
  obtain ⟨z, its, n, r, hl, e⟩ := J.lstM hH
  obtain ⟨its2, r2, ⟨⟨c2, dd, d2, sl⟩, e2, ec, n2, ed⟩, _⟩ := J.tuple hB
  simp only at ec ed
  subst ec ed
  have el2 := r2.length
  have hsz : its.toArray.size + its2.toArray.size ≤ sizeLine := by
    rw [List.size_toArray, List.size_toArray]
    omega
  have h0 : ¬ (!its.toArray.isEmpty && Builtin.List.listTooLong (its.toArray.size + its2.toArray.size)) = true := by
    rw [notLongL hsz, Bool.and_false]
    decide
  refine call_meets F.slot_list_extend ⟨_, e, rfl⟩ F.entry_list_extend (F.args_list_extend_2 _ _) (ext_tup l its.toArray n b its2.toArray n2 dd sl h0 (by omega) (by omega)) ⟨e, e2, ?_⟩
  refine ⟨.non, _, J.lset (its' := its ++ its2) hH e (by simp) (r.append r2) (by rw [List.length_append]; omega), rfl, q⟩
theorem k_lenSet {X : Cx} {K : PySem.W.Frag} {a : Expr} {ta : TE} {p p2 q pos : Pos} (hK : X.K = K) (hc : X.calm = true) (hg : Gl X "len") (hm : X.mg "len" = none) (hg2 : Gl X "set") (hm2 : X.mg "set" = none) (ha : PE X a ta) (na : starEach [a] X.env = (false, eval a X.env) :: starEach [] X.env := by rfl) :
    PE X (.Call (.Name "len" p) [.Call (.Name "set" p2) [a] [] q] [] pos) (RZ.tLenSetI K ta) := hK ▸ RZ.pe_lenSetI hg hm hg2 hm2 ha hc na
def LenSetOn (K : PySem.W.Frag) (x : V) (H1 : Hp) (Q : VK) : Prop := ∃ (l : Addr) (ns : List Int), x = .ref l ∧ SqL K H1 l (ns.map V.int) ∧ ns.Nodup ∧ ns.length ≤ 4000 ∧ Q (.int (ns.length : Nat)) H1
theorem r_lenSet {K : PySem.W.Frag} {σ : L2.St} {H : Hp} {Q : VK} {te : TE} (h : te σ H fun x H1 => LenSetOn K x H1 Q) : RZ.tLenSetI K te σ H Q := h
/-! # what stays when a lambda is made -/
section
variable {H H' H1 : Hp} {S : Addr → Prop}
mutual
theorem Td.ext (e : LamX.ExtN H H') : ∀ {v : V} {d : PyData}, Td H v d → Td H' v d
  | _, _, .non => .non
  | _, _, .bl b => .bl b
  | _, _, .int i => .int i
  | _, _, .str x => .str x
  | _, _, .tup h r => .tup (e _ _ h (fun ps z => by cases z)) (TdAll.ext e r)
theorem TdAll.ext (e : LamX.ExtN H H') : ∀ {vs : List V} {ds : List PyData}, TdAll H vs ds → TdAll H' vs ds
  | _, _, .nil => .nil
  | _, _, .cons h r => .cons (Td.ext e h) (TdAll.ext e r)
end
theorem LsAt.ext {p : Addr} {ds : List PyData} (h : LsAt H p ds) (e : LamX.ExtN H H') : LsAt H' p ds := by
  obtain ⟨vs, h1, h2⟩ := h
  exact ⟨vs, e _ _ h1 (fun ps z => by cases z), h2.ext e⟩
theorem ext_fr (f : Fr No H H') : LamX.ExtN H H' := fun b o e _ => f.old b o e fun z => z
theorem ext_trans (a : LamX.ExtN H H1) (b : LamX.ExtN H1 H') : LamX.ExtN H H' := fun c o e n => b c o (a c o e n) n
theorem ext_refl : LamX.ExtN H H := fun _ _ e _ => e
/-- what is written was not there -/
theorem ext_mut (a : LamX.ExtN H H1) (f : Fr S H1 H') (h : ∀ b, S b → H b = none) : LamX.ExtN H H' := fun c o e n => f.old c o (a c o e n) fun z => by
  rw [h c z] at e
  cases e
end
/-- a frame of what is new, or may be written -/
theorem Fr.mutP {S S' : Addr → Prop} {H H1 H2 : Hp} (f : Fr S H H1) (g : Fr S' H1 H2) (h : ∀ b, S' b → S b ∨ H b = none) : Fr S H H2 := ⟨fun b o e n => g.old b o (f.old b o e n) (fun z => (h b z).elim n fun k => by rw [k] at e; cases e), fun b xs e => g.tup b xs (f.tup b xs e), fun b e => f.thr b (g.thr b e)⟩
/-- a statement's end by a word of one's own -/
theorem r_K {t : TS} {D : Ends} {σ : L2.St} {H : Hp} (J : L2.St → Hp → Prop) (hJ : ∀ σ' H', J σ' H' → D.nx σ' H') (h : ∀ D' : Ends, D'.rt = D.rt → (∀ σ' H', J σ' H' → D'.nx σ' H') → t D' σ H) : t D σ H := h D rfl hJ
/-! # tables behind some deeds -/
namespace Tb
def run (T : Tb) (ds : List Deed) : Tb := ds.foldl (fun T d => (T.deedR d).2) T
variable {T : Tb}
theorem run_snoc {ds : List Deed} {d : Deed} : T.run (ds ++ [d]) = ((T.run ds).deedR d).2 := by
  unfold run
  rw [List.foldl_append]
  rfl
theorem deedR_n (d : Deed) : (T.deedR d).2.n = T.n := by
  cases d with
  | ask a l => exact askR_n
  | give a l => exact giveR_n
  | leave a => exact leaveR_n
theorem deedR_m (d : Deed) : (T.deedR d).2.m = T.m := by
  cases d with
  | ask a l => exact askR_m
  | give a l => exact giveR_m
  | leave a => exact leaveR_m
theorem Wf.run (W : T.Wf) : ∀ ds : List Deed, (T.run ds).Wf := fun ds => by
  induction ds generalizing T with
  | nil => exact W
  | cons d r ih => exact ih (W.deedR d)
theorem run_n : ∀ ds : List Deed, (T.run ds).n = T.n := fun ds => by
  induction ds generalizing T with
  | nil => rfl
  | cons d r ih => exact ih.trans (deedR_n d)
theorem run_m : ∀ ds : List Deed, (T.run ds).m = T.m := fun ds => by
  induction ds generalizing T with
  | nil => rfl
  | cons d r ih => exact ih.trans (deedR_m d)
end Tb
/-- deeds in a list -/
structure DsAt (H : Hp) (p : Addr) (ds : List Deed) : Prop where
  ex : ∃ as : List Addr, H p = some (.lst (as.map V.ref)) ∧ as.length = ds.length ∧ ∀ (i : Nat) a d, as[i]? = some a → ds[i]? = some d → H a = some (.tup d.vs)
theorem DsAt.fr {S : Addr → Prop} {H H' : Hp} {p : Addr} {ds : List Deed} (h : DsAt H p ds) (f : Fr S H H') (n : ¬ S p) : DsAt H' p ds := by
  obtain ⟨as, h1, h2, h3⟩ := h
  exact ⟨as, f.old _ _ h1 n, h2, fun i a d e1 e2 => f.tup _ _ (h3 i a d e1 e2)⟩
theorem DsAt.ext {H H' : Hp} {p : Addr} {ds : List Deed} (h : DsAt H p ds) (e : LamX.ExtN H H') : DsAt H' p ds := by
  obtain ⟨as, h1, h2, h3⟩ := h
  exact ⟨as, e _ _ h1 (fun ps z => by cases z), h2, fun i a d e1 e2 => e _ _ (h3 i a d e1 e2) (fun ps z => by cases z)⟩
theorem DsAt.app {H : Hp} {p a : Addr} {ds : List Deed} {d : Deed} (h : DsAt H p ds) (ha : H a = some (.tup d.vs)) (hl : ds.length ≤ 2000) {QH : Hp → Prop} {Q : VK} (q : ∀ H', DsAt H' p (ds ++ [d]) → Fr (Only1 p) H H' → Q .non H') : rAppend (.ref p) [.ref a] H Q := by
  obtain ⟨as, h1, h2, h3⟩ := h
  refine r_append h1 (by rw [List.length_map, h2]; exact hl) ?_
  have f : Fr (Only1 p) H (upd H p (.lst (as.map V.ref ++ [V.ref a]))) := Fr.put h1 (fun xs z => by cases z)
  refine q _ ⟨as ++ [a], by rw [upd_same, List.map_append]; rfl, by rw [List.length_append, List.length_append, h2]; rfl, fun i b e k1 k2 => ?_⟩ f
  by_cases hi : i < as.length
  · rw [List.getElem?_append_left hi] at k1
    rw [List.getElem?_append_left (by rw [← h2]; exact hi)] at k2
    exact f.tup _ _ (h3 i b e k1 k2)
  · have hi2 := (List.getElem?_eq_some_iff.mp k1).1
    rw [List.length_append, List.length_singleton] at hi2
    have ei : i = as.length := by omega
    subst ei
    rw [List.getElem?_append_right (Nat.le_refl _), Nat.sub_self] at k1
    rw [h2, List.getElem?_append_right (Nat.le_refl _), Nat.sub_self] at k2
    cases k1
    cases k2
    exact f.tup _ _ ha
/-! # promises -/
abbrev sp_Ldeeds (K : PySem.W.Frag) : Sp := sp1 fun x H Q _ => ∃ st sc ns, x = .ref st ∧ StAt K H st sc ns ∧ ScF K sc ns (Only1 st) ∧
  ∀ (n m : Nat) (ds : List Deed) p pd (u : V) H', (Tb.new n m).Sz → ds.length ≤ 60 → H' p = some (.tup [.int (n : Int), .int (m : Int), .ref pd, u]) → DsAt H' pd ds → Fr (Only1 st) H H' → Q (.ref p) H'
abbrev sp_Lagain (Tl : List (Addr × Str)) (K : PySem.W.Frag) : Sp := sp3 fun x y z H Q _ => ∃ (n m : Nat) (pd : Addr) (ds : List Deed), x = .int (n : Int) ∧ y = .int (m : Int) ∧ z = .ref pd ∧ (Tb.new n m).Sz ∧ DsAt H pd ds ∧ LamX.Tabs Tl H ∧
  ∀ A H', TbK K H' A ((Tb.new n m).run ds) → LamX.ExtN H H' → LamX.Tabs Tl H' → (∀ b, A.has b → H b = none) → Q (.ref A.p) H'
/-- a table's method in the catcher -/
theorem r_kindGive {K : PySem.W.Frag} {A : TA} {T : Tb} {a l : Int} {i j k : Nat} {σ : L2.St} {H : Hp} {Q : VK} (hi : σ[i]? = some (some (.ref A.p))) (hj : σ[j]? = some (some (.int a))) (hk : σ[k]? = some (some (.int l))) (hT : TbK K H A T) (hW : T.Wf)
    (q : ∀ v H', TbK K H' A (T.giveR a l).2 → Fr A.foot H H' → Q v H') : TKind K (fun E H' Q' => tMeth (tbC K) "give" (sp_t_give K) [] E (tVar i) (tCons (tVar j) (tCons (tVar k) tNil)) σ H' Q') H Q := by
  refine r_meth ⟨_, hi, r_tmeth hT (by decide +kernel) ⟨_, hj, _, hk, ?_⟩⟩
  refine ⟨_, _, _, rfl, A, T, a, l, rfl, rfl, rfl, hT, hW, fun w T' e => ?_, fun b T' e H' hT' f => ?_⟩
  · refine ⟨rfl, w, rfl, fun H2 f => q _ H2 ?_ f.up⟩
    rw [e, Tb.giveR_same e]
    exact hT.fr0 f
  · refine q _ H' ?_ f
    rw [e]
    exact hT'
theorem r_kindAsk {K : PySem.W.Frag} {A : TA} {T : Tb} {a l : Int} {i j k : Nat} {σ : L2.St} {H : Hp} {Q : VK} (hi : σ[i]? = some (some (.ref A.p))) (hj : σ[j]? = some (some (.int a))) (hk : σ[k]? = some (some (.int l))) (hT : TbK K H A T) (hW : T.Wf)
    (q : ∀ v H', TbK K H' A (T.askR a l).2 → Fr A.foot H H' → Q v H') : TKind K (fun E H' Q' => tMeth (tbC K) "ask" (sp_t_ask K) [] E (tVar i) (tCons (tVar j) (tCons (tVar k) tNil)) σ H' Q') H Q := by
  refine r_meth ⟨_, hi, r_tmeth hT (by decide +kernel) ⟨_, hj, _, hk, ?_⟩⟩
  refine ⟨_, _, _, rfl, A, T, a, l, rfl, rfl, rfl, hT, hW, fun w T' e => ?_, fun b T' e H' hT' f => ?_⟩
  · refine ⟨rfl, w, rfl, fun H2 f => q _ H2 ?_ f.up⟩
    rw [e, Tb.askR_same e]
    exact hT.fr0 f
  · refine q _ H' ?_ f
    rw [e]
    exact hT'
/-! # comparing rings -/
theorem ringD_eqv (r : List Nat) : PyData.eqv (ringD r) (ringD r) = true := SeqAt.eqv_refl _ (ringD_cmp r).1
theorem rings_eqv (rs : List (List Nat)) : PyData.eqv (.list (rs.map ringD)) (.list (rs.map ringD)) = true := SeqAt.eqv_refl _ (by simp only [PyData.canLay0]; exact (rings_cmp rs).1)
theorem any_ring {rs : List (List Nat)} {r : List Nat} (h : r ∈ rs) : ((rs.map ringD).any fun e => PyData.eqv e (ringD r)) = true := List.any_eq_true.mpr ⟨ringD r, List.mem_map.mpr ⟨r, h, rfl⟩, ringD_eqv r⟩
theorem r_notInT {K : PySem.W.Frag} {H : Hp} {Q : VK} {p : Addr} {b : Nat} {f : List Nat} (e : H p = some (.tup (f.map nV))) (q : Q (.bl (decide (b ∉ f))) H) : rIn K true (.int (b : Int)) (.ref p) H Q := ⟨p, _, rfl, .inr (SqT.of e), rfl, nats_flat _, by
  have ei : inV (V.int (b : Int)) (f.map nV) = decide (b ∈ f) := inV_nats
  rw [if_pos rfl, ei, ← decide_not]
  exact q⟩
/-- a ring in a list of rings -/
theorem ring_at {H : Hp} {vs : List V} {rs : List (List Nat)} (h : TdAll H vs (rs.map ringD)) {i : Nat} {x : V} (hx : vs[i]? = some x) : ∃ (r : List Nat) (a : Addr), rs[i]? = some r ∧ x = .ref a ∧ H a = some (.tup (r.map nV)) := by
  have hi : i < rs.length := by
    have := (List.getElem?_eq_some_iff.mp hx).1
    rw [h.len, List.length_map] at this
    exact this
  obtain ⟨u, e2, t⟩ := h.at (i := i) (d := ringD rs[i]) (by rw [List.getElem?_map, List.getElem?_eq_getElem hi]; rfl)
  rw [hx] at e2
  cases e2
  cases t with
  | tup e a => exact ⟨_, _, List.getElem?_eq_getElem hi, rfl, by rw [e, td_ints_v a]⟩
/-- over a list that is reckoned -/
theorem r_lcLc {K : PySem.W.Frag} {σ : L2.St} {H : Hp} {Q : VK} {tt : TT} {te tl : TE} {g : TG} {vs : List Nat} (h : tl σ H fun x H1 => tLc (iList K (tC x)) g tt te vs σ H1 Q) : tLc (iList K tl) g tt te vs σ H Q := h
theorem notIn_false {rs : List (List Nat)} {p : List Nat → Bool} (h : ∀ r ∈ rs, p r = false) : rs.filter p = [] := List.filter_eq_nil_iff.mpr fun r hr => by rw [h r hr]; exact Bool.false_ne_true
theorem turns_none (n : Nat) (d : Nat → PyData) : turns (fun _ => false) d n = [] := by unfold turns; simp
end AL

namespace AL
open PySem PySem.Spec PyProof.Rows L2
/-! # the least to break (no program in sight) -/
namespace Tb
variable {T T' : Tb} {a b c l : Nat}
/-- how many locks an agent holds -/
def wt (T : Tb) (a : Nat) : Nat := (T.held a).length
def wtP (T : Tb) (a : Nat) : Int × Int := ((T.wt a : Int), (a : Int))
def wts (T : Tb) (as : List Nat) : Nat := (as.map T.wt).sum
/-- the lightest -/
def lightT (T : Tb) : List Nat → Nat
  | [] => 0
  | [a] => a
  | a :: b :: r => if leB (T.wtP a) (T.wtP (lightT T (b :: r))) = true then a else lightT T (b :: r)
where leB (p q : Int × Int) : Bool := decide (p.1 < q.1 ∨ (p.1 = q.1 ∧ p.2 ≤ q.2))
theorem leP_tot (p q : Int × Int) : leP p q ∨ leP q p := by unfold leP; omega
theorem light_ok : ∀ {r : List Nat}, r ≠ [] → T.lightT r ∈ r ∧ ∀ b ∈ r, leP (T.wtP (T.lightT r)) (T.wtP b)
  | [a], _ => ⟨List.mem_cons_self, fun b hb => by rw [List.mem_singleton.mp hb]; exact leP_refl _⟩
  | a :: b :: r, _ => by
    obtain ⟨h1, h2⟩ := light_ok (r := b :: r) (by simp)
    have e : T.lightT (a :: b :: r) = if lightT.leB (T.wtP a) (T.wtP (T.lightT (b :: r))) = true then a else T.lightT (b :: r) := rfl
    rw [e]
    split
    · rename_i q
      have q' : leP (T.wtP a) (T.wtP (T.lightT (b :: r))) := by
        unfold lightT.leB at q
        have q2 := of_decide_eq_true q
        exact q2
      refine ⟨List.mem_cons_self, fun c hc => ?_⟩
      rcases List.mem_cons.mp hc with z | z
      · rw [z]; exact leP_refl _
      · exact leP_trans q' (h2 c z)
    · rename_i q
      have q' : ¬ leP (T.wtP a) (T.wtP (T.lightT (b :: r))) := fun z => q (by
        unfold lightT.leB
        exact decide_eq_true z)
      refine ⟨List.mem_cons_of_mem _ h1, fun c hc => ?_⟩
      rcases List.mem_cons.mp hc with z | z
      · rw [z]; exact (leP_tot _ _).resolve_left q'
      · exact h2 c z
theorem light_one {r : List Nat} (ha : a ∈ r) (h : ∀ b ∈ r, leP (T.wtP a) (T.wtP b)) : T.lightT r = a := by
  obtain ⟨h1, h2⟩ := light_ok (T := T) (r := r) (List.ne_nil_of_mem ha)
  have p := h _ h1
  have q := h2 _ ha
  unfold leP wtP at p q
  simp only at p q
  omega
theorem light_wt {r : List Nat} (ha : a ∈ r) : T.wt (T.lightT r) ≤ T.wt a := by
  have q := (light_ok (T := T) (List.ne_nil_of_mem ha)).2 _ ha
  unfold leP wtP at q
  simp only at q
  omega
/-- all the lightest -/
def lights (T : Tb) : List Nat := T.ringsT.map T.lightT
theorem lights_len (W : T.Wf) : T.lights.length ≤ 8 := by
  unfold lights
  rw [List.length_map]
  exact (rings_len W).1
theorem lights_lt (W : T.Wf) : ∀ x ∈ T.lights, x < T.n := fun x hx => by
  obtain ⟨r, hr, rfl⟩ := List.mem_map.mp hx
  have R := (mem_rings W).mp hr
  exact R.lt _ (light_ok R.ne).1
/-! ### several leave -/
def leaveAll (T : Tb) : List Nat → Tb
  | [] => T
  | a :: r => leaveAll (T.leave a).2 r
theorem Wf.leaveAll : ∀ {as : List Nat} {T : Tb}, T.Wf → (∀ a ∈ as, a < T.n) → (T.leaveAll as).Wf ∧ (T.leaveAll as).n = T.n
  | [], T, W, _ => ⟨W, rfl⟩
  | a :: r, T, W, h => by
    have ha := h a List.mem_cons_self
    have k := Wf.leaveAll (as := r) (W.leave ha) (fun b hb => by rw [leave_n]; exact h b (List.mem_cons_of_mem _ hb))
    exact ⟨k.1, k.2.trans leave_n⟩
theorem ring_leaveAll : ∀ {as : List Nat} {T : Tb}, T.Wf → (∀ a ∈ as, a < T.n) → ∀ r, (T.leaveAll as).Ring r ↔ T.Ring r ∧ ∀ a ∈ as, a ∉ r
  | [], T, W, _, r => ⟨fun R => ⟨R, fun a ha => by cases ha⟩, fun R => R.1⟩
  | a :: as, T, W, h, r => by
    have ha := h a List.mem_cons_self
    have k := ring_leaveAll (as := as) (W.leave ha) (fun b hb => by rw [leave_n]; exact h b (List.mem_cons_of_mem _ hb)) r
    refine k.trans ?_
    rw [ring_leave W ha r]
    constructor
    · rintro ⟨⟨h1, h2⟩, h3⟩
      refine ⟨h1, fun b hb => ?_⟩
      rcases List.mem_cons.mp hb with z | z
      · rw [z]; exact h2
      · exact h3 b z
    · rintro ⟨h1, h2⟩
      exact ⟨⟨h1, h2 a List.mem_cons_self⟩, fun b hb => h2 b (List.mem_cons_of_mem _ hb)⟩
/-- where the lightest leave no ring is left -/
theorem lights_break (W : T.Wf) : (T.leaveAll T.lights).ringsT = [] := by
  obtain ⟨W', _⟩ := Wf.leaveAll W (lights_lt W)
  refine List.eq_nil_iff_forall_not_mem.mpr fun r hr => ?_
  obtain ⟨R, h⟩ := (ring_leaveAll W (lights_lt W) r).mp ((mem_rings W').mp hr)
  exact h (T.lightT r) (List.mem_map.mpr ⟨r, (mem_rings W).mpr R, rfl⟩) (light_ok R.ne).1
theorem sum_erase {f : Nat → Nat} : ∀ {as : List Nat}, a ∈ as → (as.map f).sum = f a + ((as.erase a).map f).sum
  | b :: r, h => by
    by_cases e : b = a
    · subst e
      rw [List.erase_cons_head]
      rfl
    · have hr : a ∈ r := (List.mem_cons.mp h).resolve_left fun z => e z.symm
      rw [List.erase_cons_tail (by simpa using e), List.map_cons, List.map_cons, List.sum_cons, List.sum_cons, sum_erase hr]
      omega
theorem light_sum : ∀ {rs : List (List Nat)} {as : List Nat}, rs.Pairwise (fun r s => ∀ x ∈ r, x ∉ s) → as.Nodup → (∀ r ∈ rs, ∃ a ∈ as, a ∈ r) → ((rs.map T.lightT).map T.wt).sum ≤ (as.map T.wt).sum
  | [], as, _, _, _ => Nat.zero_le _
  | r :: rs, as, p, nd, h => by
    obtain ⟨p1, p2⟩ := List.pairwise_cons.mp p
    obtain ⟨a, h1, h2⟩ := h r List.mem_cons_self
    have ih := light_sum (rs := rs) (as := as.erase a) p2 (nd.erase a) fun s hs => by
      obtain ⟨b, k1, k2⟩ := h s (List.mem_cons_of_mem _ hs)
      refine ⟨b, ?_, k2⟩
      exact (List.mem_erase_of_ne (fun z : b = a => p1 s hs a h2 (z ▸ k2))).mpr k1
    rw [sum_erase h1, List.map_cons, List.map_cons, List.sum_cons]
    have := light_wt (T := T) h2
    omega
/-- no others that break all weigh less -/
theorem lights_least (W : T.Wf) {as : List Nat} (nd : as.Nodup) (h : ∀ a ∈ as, a < T.n) (hb : (T.leaveAll as).ringsT = []) : T.wts T.lights ≤ T.wts as := by
  obtain ⟨W', _⟩ := Wf.leaveAll W h
  refine light_sum (rings_apart W) nd fun r hr => ?_
  refine Classical.byContradiction fun z => ?_
  have R : (T.leaveAll as).Ring r := (ring_leaveAll W h r).mpr ⟨(mem_rings W).mp hr, fun a ha hx => z ⟨a, ha, hx⟩⟩
  have := (mem_rings W').mpr R
  rw [hb] at this
  cases this
end Tb
/-! ### all sets -/
def setsT : Nat → List (List Nat)
  | 0 => [[]]
  | k + 1 => setsT k ++ (setsT k).map (· ++ [k])
theorem sets_ok : ∀ {k : Nat} {s : List Nat}, s ∈ setsT k → s.Nodup ∧ ∀ x ∈ s, x < k
  | 0, s, h => by
    rw [List.mem_singleton.mp h]
    exact ⟨List.nodup_nil, fun x hx => by cases hx⟩
  | k + 1, s, h => by
    rcases List.mem_append.mp h with q | q
    · obtain ⟨h1, h2⟩ := sets_ok q
      exact ⟨h1, fun x hx => Nat.lt_succ_of_lt (h2 x hx)⟩
    · obtain ⟨t, ht, rfl⟩ := List.mem_map.mp q
      obtain ⟨h1, h2⟩ := sets_ok ht
      refine ⟨?_, fun x hx => ?_⟩
      · show (t ++ [k]).Nodup
        rw [List.nodup_append]
        exact ⟨h1, by simp, fun x hx y hy z => by
          rw [List.mem_singleton.mp hy] at z
          exact Nat.lt_irrefl _ (z ▸ h2 x hx)⟩
      · rcases List.mem_append.mp hx with z | z
        · exact Nat.lt_succ_of_lt (h2 x z)
        · rw [List.mem_singleton.mp z]; exact Nat.lt_succ_self _
theorem sets_len : ∀ k : Nat, (setsT k).length = 2 ^ k
  | 0 => rfl
  | k + 1 => by
    show (setsT k ++ (setsT k).map (· ++ [k])).length = _
    rw [List.length_append, List.length_map, sets_len k]
    omega
theorem sets_le {k : Nat} (h : k ≤ 8) : (setsT k).length ≤ 256 := by
  rw [sets_len]
  exact Nat.pow_le_pow_right (by decide) h
theorem sets_mem_le {k : Nat} (h : k ≤ 8) {s : List Nat} (hs : s ∈ setsT k) : s.length ≤ 8 := by
  obtain ⟨h1, h2⟩ := sets_ok hs
  exact Nat.le_trans (Tb.nodup_le h1 h2) h
/-- rising lists of the same numbers are one -/
theorem perm_one : ∀ {xs ys : List Int}, xs.Perm ys → xs.Pairwise (· ≤ ·) → ys.Pairwise (· ≤ ·) → xs = ys
  | [], ys, p, _, _ => (List.Perm.nil_eq p)
  | x :: xs, [], p, _, _ => absurd p.length_eq (by simp)
  | x :: xs, y :: ys, p, h1, h2 => by
    obtain ⟨a1, a2⟩ := List.pairwise_cons.mp h1
    obtain ⟨b1, b2⟩ := List.pairwise_cons.mp h2
    have e : x = y := by
      have k1 : x ∈ y :: ys := p.subset List.mem_cons_self
      have k2 : y ∈ x :: xs := p.symm.subset List.mem_cons_self
      rcases List.mem_cons.mp k1 with z | z
      · exact z
      · rcases List.mem_cons.mp k2 with w | w
        · exact w.symm
        · exact Int.le_antisymm (a1 y w) (b1 x z)
    subst e
    rw [perm_one (List.Perm.cons_inv p) a2 b2]
end AL

namespace AL
open PySem PySem.Spec PyProof.Rows L2
/-! # over a list or a tuple -/
section
variable {X : Cx} {K : PySem.W.Frag}
def iSeq (K : PySem.W.Frag) (i : Nat) : TI := fun σ H R => iList K (tVar i) σ H R ∨ iTup K (tVar i) σ H R
theorem k_seqI {tg l : Expr} {i : Nat} (hK : X.K = K) (hl : PE X l (tVar i)) : PI X tg l (iSeq K i) := by
  subst hK
  refine ⟨fun pins s σ H R J h => ?_⟩
  rcases h with h | h
  · exact (pi_list hl).run pins s σ H R J h
  · exact (pi_tup hl).run pins s σ H R J h
end
section
variable {K : PySem.W.Frag} {σ : L2.St} {H : Hp} {Q : VK} {tt : TT} {te : TE} {g : TG} {vs : List Nat} {i : Nat}
theorem r_lcSL (h : tLc (iList K (tVar i)) g tt te vs σ H Q) : tLc (iSeq K i) g tt te vs σ H Q := Or.inl h
theorem r_lcST (h : tLc (iTup K (tVar i)) g tt te vs σ H Q) : tLc (iSeq K i) g tt te vs σ H Q := Or.inr h
theorem r_forSL {tb : TS} {D : Ends} (h : tFor (iList K (tVar i)) g tb D σ H) : tFor (iSeq K i) g tb D σ H := Or.inl h
theorem r_forST {tb : TS} {D : Ends} (h : tFor (iTup K (tVar i)) g tb D σ H) : tFor (iSeq K i) g tb D σ H := Or.inr h
theorem r_forT {tl : TE} {tb : TS} {D : Ends} {j : Nat} {a : Addr} {xs : List V} (ha : ∀ Q : VK, Q (.ref a) H → tl σ H Q) (hx : SqT K H a xs) (Pv : Nat → L2.St → Hp → Prop) (h0 : Pv 0 σ H) (hl : ∀ i σ' H', i ≤ xs.length → Pv i σ' H' → SqT K H' a xs)
    (hs : ∀ i x σ' H', xs[i]? = some x → Pv i σ' H' → tb { D with nx := Pv (i + 1), ct := Pv (i + 1), bk := D.nx } (σ'.set j (some x)) H') (hd : ∀ σ' H', Pv xs.length σ' H' → D.nx σ' H') : tFor (iTup K tl) (gName j) tb D σ H :=
  ha _ ⟨a, rfl, ⟨xs, hx⟩, for_tup Pv h0 hl hs hd⟩
end
/-- numbers in a list or a tuple -/
def NsAt (H : Hp) (y : V) (as : List Nat) : Prop := ∃ a, y = .ref a ∧ (H a = some (.lst (as.map nV)) ∨ H a = some (.tup (as.map nV)))
theorem nats_at {as : List Nat} {i : Nat} {x : V} (h : (as.map nV)[i]? = some x) : ∃ z : Nat, as[i]? = some z ∧ x = .int (z : Int) := by
  rw [List.getElem?_map] at h
  cases q : as[i]? with
  | none => rw [q] at h; cases h
  | some z => rw [q] at h; exact ⟨z, rfl, (Option.some.inj h).symm⟩
theorem sum_cast : ∀ xs : List Nat, (xs.map fun x : Nat => (x : Int)).sum = ((xs.sum : Nat) : Int)
  | [] => rfl
  | x :: r => by
    rw [List.map_cons, List.sum_cons, List.sum_cons, sum_cast r]
    omega
/-! # pairs -/
def pairD (p : Int × Int) : PyData := .tuple [.int p.1, .int p.2]
theorem pair_at {H : Hp} {p : Int × Int} {v : V} (h : Td H v (pairD p)) : ∃ t, v = .ref t ∧ H t = some (.tup [.int p.1, .int p.2]) := by
  cases h with
  | tup e a =>
    cases a with
    | cons a1 a2 =>
      cases a2 with
      | cons b1 b2 =>
        cases b2
        cases a1
        cases b1
        exact ⟨_, rfl, e⟩
theorem r_minPairs {K : PySem.W.Frag} {H : Hp} {Q : VK} {p : Addr} {ps : List (Int × Int)} (h : LsAt H p (ps.map pairD)) (h0 : ps ≠ []) (q : ∀ (m : Int × Int) t, m ∈ ps → (∀ q ∈ ps, leP m q) → H t = some (.tup [.int m.1, .int m.2]) → Q (.ref t) H) : rMinP K [.ref p] H Q := by
  obtain ⟨vs, e, a⟩ := h
  have at_ : ∀ (i : Nat) x m, vs[i]? = some x → ps[i]? = some m → ∃ t, x = .ref t ∧ H t = some (.tup [.int m.1, .int m.2]) := fun i x m hx hm => by
    obtain ⟨v, e2, t⟩ := a.at (i := i) (d := pairD m) (by rw [List.getElem?_map, hm]; rfl)
    rw [hx] at e2
    cases e2
    exact pair_at t
  refine ⟨p, vs, ps, rfl, SqL.of e, by rw [a.len, List.length_map], h0, fun i x m hx hm => ?_, fun i x m hx hm hq => ?_⟩
  · obtain ⟨t, e1, e2⟩ := at_ i x m hx hm
    exact ⟨t, e1, SqT.of e2⟩
  · obtain ⟨t, rfl, e2⟩ := at_ i x m hx hm
    exact q m t (List.mem_of_getElem? hm) hq e2
abbrev sp_lightest (K : PySem.W.Frag) : Sp := sp1 fun x H Q _ => ∃ p, ∃ ps : List (Int × Int), x = .ref p ∧ LsAt H p (ps.map pairD) ∧ ps ≠ [] ∧ ∀ m : Int × Int, m ∈ ps → (∀ q ∈ ps, leP m q) → Q (.int m.2) H
/-! # promises -/
abbrev sp_least (K : PySem.W.Frag) : Sp := sp1 fun x H Q _ => ∃ A T, x = .ref A.p ∧ TbK K H A T ∧ T.Wf ∧ ∀ p ps (zs : List Int) H', H' p = some (.tup [.int (T.wts T.lights : Int), .ref ps]) → H ps = none → H' ps = some (.lst (zs.map V.int)) →
  zs.Perm (T.lights.map fun x : Nat => (x : Int)) → zs.Pairwise (· ≤ ·) → Fr No H H' → Q (.ref p) H'
abbrev sp_Lcopy (K : PySem.W.Frag) : Sp := sp1 fun x H Q _ => ∃ D T, x = .ref D.d ∧ LdAt H D T ∧ ∀ D' H', LdAt H' D' T → Fr No H H' → (∀ b, D'.has b → H b = none) → Q (.ref D'.d) H'
abbrev sp_Lweight (K : PySem.W.Frag) : Sp := sp2 fun x y H Q _ => ∃ D T as, x = .ref D.d ∧ LdAt H D T ∧ NsAt H y as ∧ as.length ≤ 900 ∧ ∀ H', Fr No H H' → Q (.int (T.wts as : Int)) H'
abbrev sp_Lleft (K : PySem.W.Frag) : Sp := sp2 fun x y H Q _ => ∃ D T as, x = .ref D.d ∧ LdAt H D T ∧ T.Wf ∧ NsAt H y as ∧ (∀ a ∈ as, a < T.n) ∧ ∀ H', Fr No H H' → Q (.bl (!decide ((T.leaveAll as).ringsT = []))) H'
abbrev sp_Lsets (K : PySem.W.Frag) : Sp := sp1 fun x H Q _ => ∃ n : Nat, x = .int (n : Int) ∧ n ≤ 8 ∧ ∀ p H', H p = none → LsAt H' p ((setsT n).map ringD) → Fr No H H' → Q (.ref p) H'
namespace Tb
theorem leaveAll_snoc : ∀ {as : List Nat} {T : Tb} {a : Nat}, T.leaveAll (as ++ [a]) = ((T.leaveAll as).leave a).2
  | [], T, a => rfl
  | b :: as, T, a => leaveAll_snoc (as := as) (T := (T.leave b).2)
end Tb
/-- a lock is loosed -/
theorem fr_lock {H H' : Hp} {d : Addr} {od : Obj} {u : HO} (nt : ∀ xs, u ≠ .tup xs) (h : H d = some u) (f : Fr No (upd H d (.frz od u)) H') : Fr No H (upd H' d u) := by
  refine ⟨fun b o e _ => ?_, fun b xs e => ?_, fun b e => ?_⟩
  · by_cases z : b = d
    · rw [z, upd_same, ← h, ← z]; exact e
    · rw [upd_ne z]
      exact f.lst (by rw [upd_ne z]; exact e)
  · have z : b ≠ d := fun z => by
      rw [z, h] at e
      exact nt xs (Option.some.inj e)
    rw [upd_ne z]
    exact f.tup _ _ (by rw [upd_ne z]; exact e)
  · by_cases z : b = d
    · rw [z, upd_same] at e; cases e
    · rw [upd_ne z] at e
      have := f.thr b e
      rw [upd_ne z] at this
      exact this
section
variable {K : PySem.W.Frag} {σ : L2.St} {H : Hp} {Q : VK} {t td : TE}
theorem r_lockE {d : Addr} {u : HO} (h : H d = some u) (mu : Mut (some u)) (nt : ∀ xs, u ≠ .tup xs) (q : ∀ od, t σ (upd H d (.frz od u)) fun v H' => H' d = some (.frz od u) ∧ Q v (upd H' d u)) : tLockE t σ H Q := ⟨d, u, h, mu, q⟩
theorem r_keysI {R : It → Hp → Prop} (h : td σ H fun x H1 => ∃ d o, x = .ref d ∧ ((∃ kvs, H1 d = some (.frz o (.dK kvs)) ∧ R (Itk d o kvs) H1) ∨ ∃ kvs, H1 d = some (.frz o (.dT kvs)) ∧ R (Itkt d o kvs) H1)) : iKeys td σ H R := h
end
/-- sum of ints -/
theorem r_sumI {K : PySem.W.Frag} {H : Hp} {Q : VK} {p : Addr} {ns : List Int} (h : LsAt H p (ns.map PyData.int)) (q : Q (.int ns.sum) H) : rSum K [.ref p] H Q := ⟨p, ns, rfl, SqL.of h.ints, q⟩
/-- a tuple of numbers, one more -/
theorem r_catN {K : PySem.W.Frag} {H : Hp} {Q : VK} {a b : Addr} {s : List Nat} {k : Nat} (ha : H a = some (.tup (s.map nV))) (hb : H b = some (.tup [.int (k : Int)])) (hl : s.length ≤ 900) (q : ∀ v H', Td H' v (ringD (s ++ [k])) → Fr No H H' → Q v H') : rCatA K (.ref a) (.ref b) H Q := by
  have td : ∀ {p : Addr} {H' : Hp}, H' p = some (.tup ((s ++ [k]).map nV)) → Td H' (.ref p) (ringD (s ++ [k])) := fun e => .tup e (td_nats _ _)
  refine ⟨a, b, _, _, rfl, rfl, SqT.of ha, SqT.of hb, ?_, fun e => ?_, (fun _ e => by cases e), fun _ _ p hp => ?_⟩
  · rw [List.length_map]
    exact Nat.le_of_lt (small2000 (by show _ + 1 ≤ 2000; omega))
  · have es : s = [] := by simpa using e
    refine q _ H ?_ Fr.refl
    subst es
    exact td hb
  · refine q _ _ (td ?_) (Fr.new hp)
    rw [upd_same, List.map_append]
    rfl
def rDictP (K : PySem.W.Frag) : List V → Hp → VK → Prop := fun xs H Q => ∃ (a : Addr) (ps : List Addr) (kvs : List (Key × V)), xs = [.ref a] ∧ SqL K H a (ps.map V.ref) ∧ Paired (fun p kv => SqT K H p [kV kv.1, kv.2]) ps kvs ∧ ∀ p, H p = none → Q (.ref p) (upd H p (.dK (mergeK [] kvs)))
theorem k_dictP {X : Cx} {K : PySem.W.Frag} (hK : X.K = K) (hc : X.calm = true) : CallR X (.type "dict") (rDictP K) := hK ▸ call_dictP hc
theorem dd_ints {H : Hp} : ∀ xs : List Int, DdAll H (xs.map V.int) (xs.map PyData.int)
  | [] => .nil
  | x :: r => .cons (.int x) (dd_ints r)
end AL

namespace AL
open PySem PySem.Spec PyProof.Rows L2
/-! # halls, as plain data -/
/-- an agent of a path: its wait number, its weight -/
structure Pt where
  a : Nat
  w : Nat
  g : Nat
  deriving DecidableEq
abbrev Pth := List Pt
inductive Lt where
  | who (p : Pth) (l : Nat)
  | is (p : Pth) (a l h : Nat)
  | still (p : Pth) (i : Nat)
  | brk (a w : Nat)
  deriving DecidableEq
def Pt.d (x : Pt) : PyData := .tuple [.int (x.a : Int), .int (x.w : Int), .int (x.g : Int)]
def pathD (p : Pth) : PyData := .tuple (p.map Pt.d)
def Lt.d : Lt → PyData
  | .who p l => .tuple [.str "who", pathD p, .int (l : Int)]
  | .is p a l h => .tuple [.str "is", pathD p, .int (a : Int), .int (l : Int), .int (h : Int)]
  | .still p i => .tuple [.str "still", pathD p, .int (i : Int)]
  | .brk a w => .tuple [.str "break", .int (a : Int), .int (w : Int)]
structure Hl where
  t : Tb
  dn : List Bool
  rd : List Lt
  tl : List (Pth × Nat)
  br : List (Nat × Nat)
def tellD (r : Pth × Nat) : PyData := .tuple [pathD r.1, .int (r.2 : Int)]
def brokD (r : Nat × Nat) : PyData := .tuple [.int (r.1 : Int), .int (r.2 : Int)]
inductive Ho where
  | b (x : Bool)
  | o (x : Option Nat)
def Ho.v : Ho → V
  | .b x => .bl x
  | .o x => oV x
def Ho.d : Ho → PyData
  | .b x => .bool x
  | .o x => oD x
def hoV : Except Wd Ho → V
  | .error w => .str w.str
  | .ok o => o.v
def hoD : Except Wd Ho → PyData
  | .error w => .str w.str
  | .ok o => o.d
/-- the least of a path: (weight, agent) -/
def Pt.k (x : Pt) : Int × Int := ((x.g : Int), (x.a : Int))
def bestP : Pth → Pt
  | [] => ⟨0, 0, 0⟩
  | [x] => x
  | x :: y :: r => if leB x.k (bestP (y :: r)).k = true then x else bestP (y :: r)
where leB (p q : Int × Int) : Bool := decide (p.1 < q.1 ∨ (p.1 = q.1 ∧ p.2 ≤ q.2))
namespace Hl
def isDown (M : Hl) (k : Nat) : Bool := M.dn.getD (k % M.dn.length) false
def lay (M : Hl) (x : Lt) : Hl := { M with rd := M.rd ++ [x] }
def own (M : Hl) (a : Nat) : Pt := ⟨a, M.t.ro a, (M.t.held a).length⟩
def by_ (M : Hl) (a w : Nat) : Bool := decide (M.t.wa a ≠ none ∧ M.t.ro a = w)
def seek (M : Hl) (a : Nat) : Hl := match M.t.wa a with
  | none => M
  | some l => M.lay (.who [M.own a] l)
def upTo (M : Hl) : Nat → Hl
  | 0 => M
  | k + 1 => if M.t.wa k ≠ none ∧ M.isDown k = false then (M.upTo k).seek k else M.upTo k
def again (M : Hl) : Hl := M.upTo M.t.n
def home : Lt → Nat
  | .who _ l => l
  | .is _ a _ _ => a
  | .still p i => (p.getD i ⟨0, 0, 0⟩).a
  | .brk a _ => a
def who (M : Hl) (p : Pth) (l : Nat) : Hl := match M.t.ow l with
  | none => M
  | some a => M.lay (.is p a l (M.t.ti l))
def come (M : Hl) (p : Pth) (a l h : Nat) : Hl := match M.t.wa a with
  | none => M
  | some want => if M.t.ow l ≠ some a ∨ M.t.ti l ≠ h then M else
    if a = (p.headD ⟨0, 0, 0⟩).a then (if M.by_ a (p.headD ⟨0, 0, 0⟩).w = true then M.lay (.still p 1) else M) else
    if a < (p.headD ⟨0, 0, 0⟩).a ∧ a ∉ p.map Pt.a then M.lay (.who (p ++ [M.own a]) want) else M
/-- whether a ring with this path was told -/
def has (M : Hl) (p : Pth) : Bool := (M.tl.map fun r => pathD r.1).any fun e => PyData.eqv e (pathD p)
def tell (M : Hl) (p : Pth) : Hl := if M.has p = true then M else { M with tl := M.tl ++ [(p, (bestP p).a)] }
def still (M : Hl) (p : Pth) (i : Nat) : Hl := if M.by_ (p.getD i ⟨0, 0, 0⟩).a (p.getD i ⟨0, 0, 0⟩).w = true then
    (if 0 < i then M.lay (.still p ((i + 1) % p.length)) else (M.lay (.brk (bestP p).a (bestP p).w)).tell p) else M
def brk (M : Hl) (a w : Nat) : Hl := if M.by_ a w = true then { M with t := (M.t.leave a).2, br := M.br ++ [(a, w)] } else M
def read (M : Hl) : Lt → Hl
  | .who p l => M.who p l
  | .is p a l h => M.come p a l h
  | .still p i => M.still p i
  | .brk a w => M.brk a w
def drop (M : Hl) (i : Nat) : Hl := { M with rd := M.rd.eraseIdx i }
def carry (M : Hl) (i : Nat) : Hl := match M.rd[i]? with
  | none => M
  | some x => if M.isDown (home x) = true then M.drop i else (M.drop i).read x
def fresh (n m h : Nat) : Hl := ⟨Tb.new n m, List.replicate h false, [], [], []⟩
def isLt (M : Hl) (i : Int) : Prop := 0 ≤ i ∧ i < M.rd.length
def isHs (M : Hl) (i : Int) : Prop := 0 ≤ i ∧ i < M.dn.length
instance (M : Hl) (i : Int) : Decidable (M.isLt i) := by unfold isLt; infer_instance
instance (M : Hl) (i : Int) : Decidable (M.isHs i) := by unfold isHs; infer_instance
def askR (M : Hl) (a l : Int) : Except Wd Ho × Hl := match M.t.fault a l with
  | some w => (.error w, M)
  | none => if M.isDown a.toNat = true ∨ M.isDown l.toNat = true then (.error .stopped, M) else match M.t.askR a l with
    | (.error w, _) => (.error w, M)
    | (.ok true, T) => (.ok (.b true), { M with t := T })
    | (.ok false, T) => (.ok (.b false), ({ M with t := T } : Hl).seek a.toNat)
def giveR (M : Hl) (a l : Int) : Except Wd Ho × Hl := match M.t.fault a l with
  | some w => (.error w, M)
  | none => if M.isDown a.toNat = true ∨ M.isDown l.toNat = true then (.error .stopped, M) else match M.t.giveR a l with
    | (.error w, _) => (.error w, M)
    | (.ok o, T) => (.ok (.o o), { M with t := T })
def carryR (M : Hl) (i : Int) : Except Wd Ho × Hl := if M.isLt i then (.ok (.o none), M.carry i.toNat) else (.error .noLetter, M)
def loseR (M : Hl) (i : Int) : Except Wd Ho × Hl := if M.isLt i then (.ok (.o none), M.drop i.toNat) else (.error .noLetter, M)
def doubleR (M : Hl) (i : Int) : Except Wd Ho × Hl := if M.isLt i then (.ok (.o none), M.lay (M.rd.getD i.toNat (.brk 0 0))) else (.error .noLetter, M)
def set (M : Hl) (i : Nat) (b : Bool) : Hl := { M with dn := M.dn.set i b }
def stopR (M : Hl) (i : Int) : Except Wd Ho × Hl := if M.isHs i then (if M.dn.getD i.toNat false = true then (.error .stopped, M) else (.ok (.o none), M.set i.toNat true)) else (.error .noHouse, M)
def riseR (M : Hl) (i : Int) : Except Wd Ho × Hl := if M.isHs i then (if M.dn.getD i.toNat false = true then (.ok (.o none), M.set i.toNat false) else (.error .up, M)) else (.error .noHouse, M)
end Hl
inductive Hd where
  | ask (a l : Int)
  | give (a l : Int)
  | again
  | carry (i : Int)
  | lose (i : Int)
  | double (i : Int)
  | stop (i : Int)
  | rise (i : Int)
def Hd.vs : Hd → List V
  | .ask a l => [.str "ask", .int a, .int l]
  | .give a l => [.str "give", .int a, .int l]
  | .again => [.str "again"]
  | .carry i => [.str "carry", .int i]
  | .lose i => [.str "lose", .int i]
  | .double i => [.str "double", .int i]
  | .stop i => [.str "stop", .int i]
  | .rise i => [.str "rise", .int i]
def Hl.deedR (M : Hl) : Hd → Except Wd Ho × Hl
  | .ask a l => M.askR a l
  | .give a l => M.giveR a l
  | .again => (.ok (.o none), M.again)
  | .carry i => M.carryR i
  | .lose i => M.loseR i
  | .double i => M.doubleR i
  | .stop i => M.stopR i
  | .rise i => M.riseR i
/-! ### what holds of a hall between its deeds -/
structure POk (T : Tb) (p : Pth) : Prop where
  ne : p ≠ []
  lt : ∀ x ∈ p, x.a < T.n
  nd : (p.map Pt.a).Nodup
  le : ∀ x ∈ p, x.w ≤ T.ro x.a
/-- the last of a path waits for the lock, if it waits still -/
def Lst (T : Tb) (p : Pth) (l : Nat) : Prop := ∀ x, p.getLast? = some x → T.wa x.a ≠ none → T.ro x.a = x.w → T.wa x.a = some l
inductive LOk (T : Tb) : Lt → Prop
  | who {p : Pth} {l : Nat} : POk T p → l < T.m → Lst T p l → LOk T (.who p l)
  | is {p : Pth} {a l h : Nat} : POk T p → a < T.n → l < T.m → Lst T p l → LOk T (.is p a l h)
  | still {p : Pth} {i : Nat} : POk T p → i < p.length → LOk T (.still p i)
  | brk {a w : Nat} : a < T.n → LOk T (.brk a w)
structure Hl.Ok (M : Hl) : Prop where
  t : M.t.Wf
  h1 : 1 ≤ M.dn.length
  h4 : M.dn.length ≤ 4
  rd : ∀ x ∈ M.rd, LOk M.t x
  tl : ∀ r ∈ M.tl, r.1.length ≤ 8
/-! ### the table's steps leave the letters good -/
/-- later tables: no wait number falls; who waits by a number waited so, for the same lock -/
structure Tb.On (T T' : Tb) : Prop where
  n : T'.n = T.n
  m : T'.m = T.m
  ro : ∀ a, T.ro a ≤ T'.ro a
  wa : ∀ a, T'.wa a ≠ none → T'.ro a = T.ro a → T'.wa a = T.wa a
namespace Tb
variable {T T' : Tb}
theorem On.refl : T.On T := ⟨rfl, rfl, fun _ => Nat.le_refl _, fun _ _ _ => rfl⟩
theorem On.pok {p : Pth} (o : T.On T') (h : POk T p) : POk T' p := ⟨h.ne, fun x hx => by rw [o.n]; exact h.lt x hx, h.nd, fun x hx => Nat.le_trans (h.le x hx) (o.ro _)⟩
theorem On.lst {p : Pth} {l : Nat} (o : T.On T') (k : POk T p) (h : Lst T p l) : Lst T' p l := fun x hx hw hr => by
  have hm : x ∈ p := List.mem_of_getLast? hx
  have h1 := k.le x hm
  have h2 := o.ro x.a
  have e : T'.ro x.a = T.ro x.a := by omega
  have ew := o.wa x.a hw e
  rw [ew] at hw ⊢
  exact h x hx hw (by omega)
theorem On.lok {x : Lt} (o : T.On T') (h : LOk T x) : LOk T' x := by
  cases h with
  | who p hl s => exact .who (o.pok p) (by rw [o.m]; exact hl) (o.lst p s)
  | is p ha hl s => exact .is (o.pok p) (by rw [o.n]; exact ha) (by rw [o.m]; exact hl) (o.lst p s)
  | still p hi => exact .still (o.pok p) hi
  | brk ha => exact .brk (by rw [o.n]; exact ha)
theorem On.trans {T2 : Tb} (o : T.On T') (q : T'.On T2) : T.On T2 := ⟨q.n.trans o.n, q.m.trans o.m, fun a => Nat.le_trans (o.ro a) (q.ro a), fun a hw hr => by
  have h1 := o.ro a
  have h2 := q.ro a
  have e1 : T2.ro a = T'.ro a := by omega
  have e2 : T'.ro a = T.ro a := by omega
  have k := q.wa a hw e1
  rw [k] at hw ⊢
  exact o.wa a hw e2⟩
theorem On.pass {l : Nat} (W : T.Wf) : T.On (T.pass l) := ⟨pass_n, pass_m, fun a => by rw [pass_ro]; exact Nat.le_refl _, fun a hw _ => by
  rw [pass_wa W] at hw ⊢
  split at hw
  · exact absurd rfl hw
  · rename_i q
    rw [if_neg q]⟩
theorem On.passAll : ∀ {ls : List Nat} {T : Tb}, T.Wf → (∀ l ∈ ls, l < T.m) → T.On (Tb.passAll ls T).2
  | [], T, W, h => On.refl
  | k :: r, T, W, h => (On.pass W).trans (On.passAll (ls := r) (W.pass (h k List.mem_cons_self)) (fun l hl => by rw [pass_m]; exact h l (List.mem_cons_of_mem _ hl)))
theorem On.unwait {a : Nat} (ha : a < T.n) : T.On (T.unwait a) := ⟨unwait_n, unwait_m, fun b => by rw [unwait_ro]; exact Nat.le_refl _, fun b hw _ => by
  rw [unwait_wa ha] at hw ⊢
  split at hw
  · exact absurd rfl hw
  · rename_i q
    rw [if_neg q]⟩
theorem On.leave {a : Nat} (W : T.Wf) (ha : a < T.n) : T.On (T.leave a).2 := (On.unwait ha).trans (On.passAll (W.unwait ha) fun l hl => held_lt hl)
theorem On.take {a l : Nat} : T.On (T.take a l) := ⟨rfl, take_m, fun _ => Nat.le_refl _, fun _ _ _ => rfl⟩
theorem On.wait {a l : Nat} (W : T.Wf) (ha : a < T.n) : T.On (T.wait a l) := ⟨wait_n, rfl, fun b => by
  rw [wait_ro]
  split
  · rename_i q
    rw [← q.1]
    exact Nat.le_succ _
  · exact Nat.le_refl _, fun b _ hr => by
  have ha' : a < T.rou.length := by rw [W.sz.ro]; exact ha
  rw [wait_ro] at hr
  by_cases z : a = b
  · rw [if_pos ⟨z, ha'⟩, ← z] at hr
    omega
  · rw [wait_wa, if_neg (fun q => z q.1)]⟩
theorem On.askR (W : T.Wf) {a l : Int} : T.On (T.askR a l).2 := by
  cases h : T.fault a l with
  | some w => rw [askR_err h]; exact On.refl
  | none =>
    obtain ⟨a, l, rfl, rfl, ha, hl⟩ := fault_none h
    rw [askR_nat ha hl]
    split
    · exact On.refl
    · split
      · exact On.refl
      · split
        · exact On.take
        · exact On.wait W ha
theorem On.giveR (W : T.Wf) {a l : Int} : T.On (T.giveR a l).2 := by
  cases h : T.fault a l with
  | some w => rw [giveR_err h]; exact On.refl
  | none =>
    obtain ⟨a, l, rfl, rfl, ha, hl⟩ := fault_none h
    rw [giveR_nat ha hl]
    split
    · exact On.refl
    · split
      · exact On.refl
      · exact On.pass W
end Tb
theorem POk.len {T : Tb} {p : Pth} (W : T.Wf) (h : POk T p) : p.length ≤ 8 := by
  have := Tb.nodup_le h.nd (n := T.n) (fun x hx => by
    obtain ⟨y, hy, rfl⟩ := List.mem_map.mp hx
    exact h.lt y hy)
  rw [List.length_map] at this
  exact Nat.le_trans this W.sz.n8
theorem best_mem : ∀ {p : Pth}, p ≠ [] → bestP p ∈ p ∧ ∀ y ∈ p, leP (bestP p).k y.k
  | [x], _ => ⟨List.mem_cons_self, fun y hy => by rw [List.mem_singleton.mp hy]; exact leP_refl _⟩
  | x :: y :: r, _ => by
    obtain ⟨h1, h2⟩ := best_mem (p := y :: r) (by simp)
    have e : bestP (x :: y :: r) = if bestP.leB x.k (bestP (y :: r)).k = true then x else bestP (y :: r) := rfl
    rw [e]
    split
    · rename_i q
      have q' : leP x.k (bestP (y :: r)).k := by
        unfold bestP.leB at q
        have q2 := of_decide_eq_true q
        exact q2
      refine ⟨List.mem_cons_self, fun c hc => ?_⟩
      rcases List.mem_cons.mp hc with z | z
      · rw [z]; exact leP_refl _
      · exact leP_trans q' (h2 c z)
    · rename_i q
      have q' : ¬ leP x.k (bestP (y :: r)).k := fun z => q (by
        unfold bestP.leB
        exact decide_eq_true z)
      refine ⟨List.mem_cons_of_mem _ h1, fun c hc => ?_⟩
      rcases List.mem_cons.mp hc with z | z
      · rw [z]; exact (Tb.leP_tot _ _).resolve_left q'
      · exact h2 c z
theorem nd_inj : ∀ {p : Pth} {x y : Pt}, (p.map Pt.a).Nodup → x ∈ p → y ∈ p → x.a = y.a → x = y
  | z :: r, x, y, nd, hx, hy, e => by
    rw [List.map_cons, List.nodup_cons] at nd
    rcases List.mem_cons.mp hx with h1 | h1 <;> rcases List.mem_cons.mp hy with h2 | h2
    · rw [h1, h2]
    · exact absurd (List.mem_map.mpr ⟨y, h2, e.symm.trans (by rw [h1])⟩) nd.1
    · exact absurd (List.mem_map.mpr ⟨x, h1, e.trans (by rw [h2])⟩) nd.1
    · exact nd_inj nd.2 h1 h2 e
/-- the least is the one -/
theorem best_one {p : Pth} {x : Pt} (nd : (p.map Pt.a).Nodup) (hx : x ∈ p) (h : ∀ y ∈ p, leP x.k y.k) : bestP p = x := by
  obtain ⟨h1, h2⟩ := best_mem (List.ne_nil_of_mem hx)
  have k1 := h _ h1
  have k2 := h2 _ hx
  refine nd_inj nd h1 hx ?_
  unfold leP Pt.k at k1 k2
  simp only at k1 k2
  omega
namespace Hl
variable {M : Hl}
theorem Ok.lay {x : Lt} (O : M.Ok) (h : LOk M.t x) : (M.lay x).Ok := ⟨O.t, O.h1, O.h4, fun y hy => by
  rcases List.mem_append.mp hy with q | q
  · exact O.rd y q
  · rw [List.mem_singleton.mp q]; exact h, O.tl⟩
theorem Ok.on {T : Tb} (O : M.Ok) (W : T.Wf) (o : M.t.On T) : ({ M with t := T } : Hl).Ok := ⟨W, O.h1, O.h4, fun y hy => o.lok (O.rd y hy), O.tl⟩
theorem Ok.drop {i : Nat} (O : M.Ok) : (M.drop i).Ok := ⟨O.t, O.h1, O.h4, fun y hy => O.rd y (List.mem_of_mem_eraseIdx hy), O.tl⟩
theorem own_ok {a : Nat} (ha : a < M.t.n) : POk M.t [M.own a] := ⟨by simp, fun x hx => by rw [List.mem_singleton.mp hx]; exact ha, by simp, fun x hx => by rw [List.mem_singleton.mp hx]; exact Nat.le_refl _⟩
theorem Ok.seek {a : Nat} (O : M.Ok) : (M.seek a).Ok := by
  unfold Hl.seek
  cases h : M.t.wa a with
  | none => exact O
  | some l =>
    refine O.lay (.who (own_ok (Tb.wa_lt h)) (O.t.wl a l h).1 fun x hx _ _ => ?_)
    have e : M.own a = x := by simpa using hx
    rw [← e]
    exact h
theorem seek_t {a : Nat} : (M.seek a).t = M.t := by
  unfold Hl.seek
  split <;> rfl
theorem seek_dn {a : Nat} : (M.seek a).dn = M.dn := by
  unfold Hl.seek
  split <;> rfl
theorem upTo_same : ∀ k : Nat, (M.upTo k).t = M.t ∧ (M.upTo k).dn = M.dn
  | 0 => ⟨rfl, rfl⟩
  | k + 1 => by
    obtain ⟨h1, h2⟩ := upTo_same k
    show (if M.t.wa k ≠ none ∧ M.isDown k = false then (M.upTo k).seek k else M.upTo k).t = _ ∧ (if M.t.wa k ≠ none ∧ M.isDown k = false then (M.upTo k).seek k else M.upTo k).dn = _
    split
    · exact ⟨seek_t.trans h1, seek_dn.trans h2⟩
    · exact ⟨h1, h2⟩
theorem Ok.upTo (O : M.Ok) : ∀ k : Nat, (M.upTo k).Ok
  | 0 => O
  | k + 1 => by
    show (if M.t.wa k ≠ none ∧ M.isDown k = false then (M.upTo k).seek k else M.upTo k).Ok
    split
    · exact (Ok.upTo O k).seek
    · exact Ok.upTo O k
theorem Ok.who {p : Pth} {l : Nat} (O : M.Ok) (hp : POk M.t p) (hl : l < M.t.m) (hs : Lst M.t p l) : (M.who p l).Ok := by
  unfold Hl.who
  split
  · exact O
  · rename_i a h
    exact O.lay (.is hp (O.t.oh l a h) hl hs)
theorem Ok.come {p : Pth} {a l h : Nat} (O : M.Ok) (hp : POk M.t p) (ha : a < M.t.n) (hl : l < M.t.m) (hs : Lst M.t p l) : (M.come p a l h).Ok := by
  unfold Hl.come
  split
  · exact O
  · rename_i want hw
    split
    · exact O
    · rename_i q
      have q1 : M.t.ow l = some a := Classical.byContradiction fun z => q (.inl z)
      split
      · rename_i e
        split
        · rename_i b
          have b' := of_decide_eq_true b
          refine O.lay (.still hp ?_)
          cases p with
          | nil => exact absurd rfl hp.ne
          | cons x r =>
            cases r with
            | nil =>
              have e' : a = x.a := e
              have b2 : M.t.wa a ≠ none ∧ M.t.ro a = x.w := b'
              have := hs x rfl (by rw [← e']; exact b2.1) (by rw [← e']; exact b2.2)
              rw [← e'] at this
              exact absurd q1 (O.t.no a l this)
            | cons y r => exact Nat.succ_lt_succ (Nat.succ_pos _)
        · exact O
      · split
        · rename_i c
          refine O.lay (.who ⟨by simp, fun x hx => ?_, ?_, fun x hx => ?_⟩ (O.t.wl a want hw).1 fun x hx _ _ => ?_)
          · rcases List.mem_append.mp hx with z | z
            · exact hp.lt x z
            · rw [List.mem_singleton.mp z]; exact ha
          · rw [List.map_append, List.nodup_append]
            refine ⟨hp.nd, by simp, fun x hx y hy z => c.2 ?_⟩
            have : y = (M.own a).a := by simpa using hy
            have e2 : a = y := this.symm
            rw [e2, ← z]; exact hx
          · rcases List.mem_append.mp hx with z | z
            · exact hp.le x z
            · rw [List.mem_singleton.mp z]; exact Nat.le_refl _
          · rw [List.getLast?_append] at hx
            have e : M.own a = x := by simpa using hx
            rw [← e]
            exact hw
        · exact O
theorem Ok.tell {p : Pth} (O : M.Ok) (hp : p.length ≤ 8) : (M.tell p).Ok := by
  unfold Hl.tell
  split
  · exact O
  · exact ⟨O.t, O.h1, O.h4, O.rd, fun r hr => by
      rcases List.mem_append.mp hr with z | z
      · exact O.tl r z
      · rw [List.mem_singleton.mp z]; exact hp⟩
theorem Ok.still {p : Pth} {i : Nat} (O : M.Ok) (hp : POk M.t p) : (M.still p i).Ok := by
  unfold Hl.still
  have hl : 0 < p.length := List.length_pos_iff.mpr hp.ne
  split
  · split
    · exact O.lay (.still hp (Nat.mod_lt _ hl))
    · refine Ok.tell (O.lay (.brk (hp.lt _ (best_mem hp.ne).1))) (hp.len O.t)
  · exact O
theorem Ok.brk {a w : Nat} (O : M.Ok) (ha : a < M.t.n) : (M.brk a w).Ok := by
  unfold Hl.brk
  split
  · have := O.on (O.t.leave ha) (Tb.On.leave O.t ha)
    exact ⟨this.t, this.h1, this.h4, this.rd, this.tl⟩
  · exact O
theorem Ok.read {x : Lt} (O : M.Ok) (h : LOk M.t x) : (M.read x).Ok := by
  cases h with
  | who p hl s => exact O.who p hl s
  | is p ha hl s => exact O.come p ha hl s
  | still p hi => exact O.still p
  | brk ha => exact O.brk ha
theorem Ok.carry {i : Nat} (O : M.Ok) : (M.carry i).Ok := by
  unfold Hl.carry
  split
  · exact O
  · rename_i x h
    split
    · exact O.drop
    · exact O.drop.read (O.rd x (List.mem_of_getElem? h))
theorem Ok.deedR (O : M.Ok) (dd : Hd) : (M.deedR dd).2.Ok := by
  cases dd with
  | ask a l =>
    show (M.askR a l).2.Ok
    unfold Hl.askR
    split
    · exact O
    · split
      · exact O
      · have k := O.on (O.t.askR (x := a) (y := l)) (Tb.On.askR O.t)
        split
        · exact O
        · rename_i T e
          rw [e] at k
          exact k
        · rename_i T e
          rw [e] at k
          exact k.seek
  | give a l =>
    show (M.giveR a l).2.Ok
    unfold Hl.giveR
    split
    · exact O
    · split
      · exact O
      · have k := O.on (O.t.giveR (x := a) (y := l)) (Tb.On.giveR O.t)
        split
        · exact O
        · rename_i o T e
          rw [e] at k
          exact k
  | again => exact O.upTo _
  | carry i =>
    show (M.carryR i).2.Ok
    unfold Hl.carryR
    split
    · exact O.carry
    · exact O
  | lose i =>
    show (M.loseR i).2.Ok
    unfold Hl.loseR
    split
    · exact O.drop
    · exact O
  | double i =>
    show (M.doubleR i).2.Ok
    unfold Hl.doubleR
    split
    · rename_i q
      refine O.lay (O.rd _ ?_)
      have hi : i.toNat < M.rd.length := by have := q.1; have := q.2; omega
      exact List.mem_of_getElem? (getD_some hi)
    · exact O
  | stop i =>
    show (M.stopR i).2.Ok
    unfold Hl.stopR Hl.set
    split
    · split
      · exact O
      · exact ⟨O.t, by show 1 ≤ (M.dn.set _ _).length; rw [List.length_set]; exact O.h1, by show (M.dn.set _ _).length ≤ 4; rw [List.length_set]; exact O.h4, O.rd, O.tl⟩
    · exact O
  | rise i =>
    show (M.riseR i).2.Ok
    unfold Hl.riseR Hl.set
    split
    · split
      · exact ⟨O.t, by show 1 ≤ (M.dn.set _ _).length; rw [List.length_set]; exact O.h1, by show (M.dn.set _ _).length ≤ 4; rw [List.length_set]; exact O.h4, O.rd, O.tl⟩
      · exact O
    · exact O
theorem Ok.new {n m h : Nat} (s : (Tb.new n m).Sz) (h1 : 1 ≤ h) (h4 : h ≤ 4) : (fresh n m h).Ok := ⟨Tb.Wf.new s, by show 1 ≤ (List.replicate h false).length; rw [List.length_replicate]; exact h1, by show (List.replicate h false).length ≤ 4; rw [List.length_replicate]; exact h4, (fun x hx => by cases hx), (fun x hx => by cases hx)⟩
end Hl
end AL

namespace AL
open PySem PySem.Spec PyProof.Rows L2
/-! # where a hall stands -/
section
variable {K : PySem.W.Frag} {H H' : Hp} {Q : VK} {v : V} {S : Addr → Prop}
/-! ### letters, paths -/
theorem td_ref {ds : List PyData} (h : Td H v (.tuple ds)) : ∃ a vs, v = .ref a ∧ H a = some (.tup vs) ∧ TdAll H vs ds := by
  cases h with
  | tup e a => exact ⟨_, _, rfl, e, a⟩
theorem td_int {i : Int} (h : Td H v (.int i)) : v = .int i := by cases h; rfl
theorem td_str {x : Str} (h : Td H v (.str x)) : v = .str x := by cases h; rfl
theorem td_c {vs : List V} {d : PyData} {ds : List PyData} (h : TdAll H vs (d :: ds)) : ∃ v r, vs = v :: r ∧ Td H v d ∧ TdAll H r ds := by
  cases h with
  | cons a b => exact ⟨_, _, rfl, a, b⟩
theorem td_n {vs : List V} (h : TdAll H vs []) : vs = [] := by cases h; rfl
theorem pt_at {x : Pt} (h : Td H v x.d) : ∃ a, v = .ref a ∧ H a = some (.tup [.int (x.a : Int), .int (x.w : Int), .int (x.g : Int)]) := by
  obtain ⟨a, vs, rfl, e, h⟩ := td_ref h
  obtain ⟨v1, r1, rfl, t1, h⟩ := td_c h
  obtain ⟨v2, r2, rfl, t2, h⟩ := td_c h
  obtain ⟨v3, r3, rfl, t3, h⟩ := td_c h
  rw [td_n h, td_int t1, td_int t2, td_int t3] at e
  exact ⟨a, rfl, e⟩
theorem who_at {p : Pth} {l : Nat} (h : Td H v (Lt.who p l).d) : ∃ a pv, v = .ref a ∧ H a = some (.tup [.str "who", pv, .int (l : Int)]) ∧ Td H pv (pathD p) := by
  obtain ⟨a, vs, rfl, e, h⟩ := td_ref h
  obtain ⟨v1, r1, rfl, t1, h⟩ := td_c h
  obtain ⟨v2, r2, rfl, t2, h⟩ := td_c h
  obtain ⟨v3, r3, rfl, t3, h⟩ := td_c h
  rw [td_n h, td_str t1, td_int t3] at e
  exact ⟨a, v2, rfl, e, t2⟩
theorem is_at {p : Pth} {b l k : Nat} (h : Td H v (Lt.is p b l k).d) : ∃ a pv, v = .ref a ∧ H a = some (.tup [.str "is", pv, .int (b : Int), .int (l : Int), .int (k : Int)]) ∧ Td H pv (pathD p) := by
  obtain ⟨a, vs, rfl, e, h⟩ := td_ref h
  obtain ⟨v1, r1, rfl, t1, h⟩ := td_c h
  obtain ⟨v2, r2, rfl, t2, h⟩ := td_c h
  obtain ⟨v3, r3, rfl, t3, h⟩ := td_c h
  obtain ⟨v4, r4, rfl, t4, h⟩ := td_c h
  obtain ⟨v5, r5, rfl, t5, h⟩ := td_c h
  rw [td_n h, td_str t1, td_int t3, td_int t4, td_int t5] at e
  exact ⟨a, v2, rfl, e, t2⟩
theorem still_at {p : Pth} {l : Nat} (h : Td H v (Lt.still p l).d) : ∃ a pv, v = .ref a ∧ H a = some (.tup [.str "still", pv, .int (l : Int)]) ∧ Td H pv (pathD p) := by
  obtain ⟨a, vs, rfl, e, h⟩ := td_ref h
  obtain ⟨v1, r1, rfl, t1, h⟩ := td_c h
  obtain ⟨v2, r2, rfl, t2, h⟩ := td_c h
  obtain ⟨v3, r3, rfl, t3, h⟩ := td_c h
  rw [td_n h, td_str t1, td_int t3] at e
  exact ⟨a, v2, rfl, e, t2⟩
theorem brk_at {b w : Nat} (h : Td H v (Lt.brk b w).d) : ∃ a, v = .ref a ∧ H a = some (.tup [.str "break", .int (b : Int), .int (w : Int)]) := by
  obtain ⟨a, vs, rfl, e, h⟩ := td_ref h
  obtain ⟨v1, r1, rfl, t1, h⟩ := td_c h
  obtain ⟨v2, r2, rfl, t2, h⟩ := td_c h
  obtain ⟨v3, r3, rfl, t3, h⟩ := td_c h
  rw [td_n h, td_str t1, td_int t2, td_int t3] at e
  exact ⟨a, rfl, e⟩
theorem path_at {p : Pth} (h : Td H v (pathD p)) : ∃ a vs, v = .ref a ∧ H a = some (.tup vs) ∧ TdAll H vs (p.map Pt.d) := td_ref h
theorem path_ix {p : Pth} {vs : List V} (h : TdAll H vs (p.map Pt.d)) {i : Nat} (hi : i < p.length) : ∃ a, vs[i]? = some (.ref a) ∧ H a = some (.tup [.int ((p.getD i ⟨0, 0, 0⟩).a : Int), .int ((p.getD i ⟨0, 0, 0⟩).w : Int), .int ((p.getD i ⟨0, 0, 0⟩).g : Int)]) := by
  obtain ⟨v, e, t⟩ := h.at (i := i) (d := (p.getD i ⟨0, 0, 0⟩).d) (by rw [List.getElem?_map, getD_some hi]; rfl)
  obtain ⟨a, rfl, ea⟩ := pt_at t
  exact ⟨a, e, ea⟩
/-! ### lists of such data -/
theorem TdAll.erase : ∀ {vs : List V} {ds : List PyData} {i : Nat}, TdAll H vs ds → TdAll H (vs.eraseIdx i) (ds.eraseIdx i)
  | [], [], _, h => h
  | v :: vs, d :: ds, 0, h => by cases h with | cons a b => exact b
  | v :: vs, d :: ds, i + 1, h => by
    cases h with
    | cons a b =>
      rw [List.eraseIdx_cons_succ, List.eraseIdx_cons_succ]
      exact .cons a (TdAll.erase b)
theorem r_appLs {p : Addr} {ds : List PyData} {d : PyData} (h : LsAt H p ds) (hv : Td H v d) (hl : ds.length ≤ 2000) (q : ∀ H', LsAt H' p (ds ++ [d]) → Fr (Only1 p) H H' → Q .non H') : rAppend (.ref p) [v] H Q := by
  obtain ⟨vs, e, a⟩ := h
  refine r_append e (by rw [a.len]; exact hl) ?_
  have f : Fr (Only1 p) H (upd H p (.lst (vs ++ [v]))) := Fr.put e (fun xs z => by cases z)
  exact q _ ⟨_, upd_same, (a.fr f).app (TdAll.one (hv.fr f))⟩ f
theorem r_popLs {p : Addr} {ds : List PyData} {d : PyData} {i : Nat} (h : LsAt H p ds) (hi : ds[i]? = some d) (hs : i < 100000) (q : ∀ v H', Td H' v d → LsAt H' p (ds.eraseIdx i) → Fr (Only1 p) H H' → Q v H') : rPopAt (.ref p) [.int (i : Int)] H Q := by
  obtain ⟨vs, e, a⟩ := h
  obtain ⟨v, ev, t⟩ := a.at hi
  have f : Fr (Only1 p) H (upd H p (.lst (vs.eraseIdx i))) := Fr.put e (fun xs z => by cases z)
  exact r_popAt e ev hs (q v _ (t.fr f) ⟨_, upd_same, (a.fr f).erase⟩ f)
theorem ls_ix {p : Addr} {ds : List PyData} {d : PyData} {i : Nat} (h : LsAt H p ds) (hi : ds[i]? = some d) (q : ∀ v, Td H v d → Q v H) : rIxL K (.ref p) (.int (i : Int)) H Q := by
  obtain ⟨vs, e, a⟩ := h
  obtain ⟨v, ev, t⟩ := a.at hi
  exact r_ixl e ev (q v t)
theorem ls_len {p : Addr} {ds : List PyData} (h : LsAt H p ds) (q : Q (.int (ds.length : Int)) H) : rLenQ K [.ref p] H Q := by
  obtain ⟨vs, e, a⟩ := h
  refine r_lenS e ?_
  rw [a.len]
  exact q
theorem ls_copy {p : Addr} {ds : List PyData} (h : LsAt H p ds) (q : ∀ c H', H c = none → LsAt H' c ds → Fr No H H' → Q (.ref c) H') : rListQ K [.ref p] H Q := by
  obtain ⟨vs, e, a⟩ := h
  exact r_listOf e fun c H' hc ec f => q c H' hc ⟨vs, ec, a.fr f⟩ f
end
/-! ### the program's hall -/
abbrev hlC (K : PySem.W.Frag) : Addr := He.ga K "Hall"
structure HlA where
  p : Addr
  dx : Addr
  dn : Addr
  le : Addr
  te : Addr
  br : Addr
  t : TA
def HlA.own (A : HlA) : List Addr := [A.p, A.dn, A.le, A.te, A.br]
def HlA.foot (A : HlA) : Addr → Prop := fun b => A.t.foot b ∨ b ∈ [A.dn, A.le, A.te, A.br]
def HlA.has (A : HlA) : Addr → Prop := fun b => A.t.has b ∨ b ∈ A.own
def HlA.fs (A : HlA) : List (Str × V) := [("main", .ref A.t.p), ("down", .ref A.dn), ("letters", .ref A.le), ("tellings", .ref A.te), ("breakings", .ref A.br)]
structure HlAt (K : PySem.W.Frag) (H : Hp) (A : HlA) (M : Hl) : Prop where
  ins : H A.p = some (.ins (hlC K) A.dx A.fs)
  tb : TbK K H A.t M.t
  dn : H A.dn = some (.lst (M.dn.map V.bl))
  le : LsAt H A.le (M.rd.map Lt.d)
  te : LsAt H A.te (M.tl.map tellD)
  br : LsAt H A.br (M.br.map brokD)
  nd : A.own.Nodup
  ap : ∀ b ∈ A.own, ¬ A.t.has b
theorem lk_main {A : HlA} : A.fs.lookup ("main" : Str) = some (V.ref A.t.p) := by rfl
theorem lk_down {A : HlA} : A.fs.lookup ("down" : Str) = some (V.ref A.dn) := by rfl
theorem lk_letters {A : HlA} : A.fs.lookup ("letters" : Str) = some (V.ref A.le) := by rfl
theorem lk_tellings {A : HlA} : A.fs.lookup ("tellings" : Str) = some (V.ref A.te) := by rfl
theorem lk_breakings {A : HlA} : A.fs.lookup ("breakings" : Str) = some (V.ref A.br) := by rfl
theorem hk_not {A : HlA} {m : Str} (h : ([("main" : Str), "down", "letters", "tellings", "breakings"].contains m) = false) : A.fs.lookup m = none := by
  unfold HlA.fs
  simp only [List.contains_cons, List.contains_nil, Bool.or_eq_false_iff, Bool.or_false] at h
  obtain ⟨h1, h2, h3, h4, h5⟩ := h
  simp only [List.lookup, h1, h2, h3, h4, h5]
structure HlTxt (K : PySem.W.Frag) : Prop where
  c : Cls K (hlC K)
  m : NoAttr K (hlC K) "main"
  d : NoAttr K (hlC K) "down"
  l : NoAttr K (hlC K) "letters"
  t : NoAttr K (hlC K) "tellings"
  b : NoAttr K (hlC K) "breakings"
section
variable {K : PySem.W.Frag} {H H' : Hp} {Q : VK} {A : HlA} {M : Hl} {S : Addr → Prop} {v : V}
theorem r_main (X : HlTxt K) (h : HlAt K H A M) (q : Q (.ref A.t.p) H) : FldOn K "main" (.ref A.p) H Q := r_fldOn h.ins X.c X.m lk_main q
theorem r_down (X : HlTxt K) (h : HlAt K H A M) (q : Q (.ref A.dn) H) : FldOn K "down" (.ref A.p) H Q := r_fldOn h.ins X.c X.d lk_down q
theorem r_letters (X : HlTxt K) (h : HlAt K H A M) (q : Q (.ref A.le) H) : FldOn K "letters" (.ref A.p) H Q := r_fldOn h.ins X.c X.l lk_letters q
theorem r_tellings (X : HlTxt K) (h : HlAt K H A M) (q : Q (.ref A.te) H) : FldOn K "tellings" (.ref A.p) H Q := r_fldOn h.ins X.c X.t lk_tellings q
theorem r_breakings (X : HlTxt K) (h : HlAt K H A M) (q : Q (.ref A.br) H) : FldOn K "breakings" (.ref A.p) H Q := r_fldOn h.ins X.c X.b lk_breakings q
theorem r_hmeth {m : Str} {G : Prop} (h : HlAt K H A M) (hm : ([("main" : Str), "down", "letters", "tellings", "breakings"].contains m) = false) (g : G) : MethOn (hlC K) m (.ref A.p) H G := r_methOn h.ins (hk_not hm) g
theorem HlAt.fr (h : HlAt K H A M) (f : Fr S H H') (d : ∀ b, A.has b → ¬ S b) : HlAt K H' A M := by
  have o : ∀ {b : Addr}, b ∈ A.own → ¬ S b := fun hb => d _ (.inr hb)
  exact ⟨f.old _ _ h.ins (o (by simp [HlA.own])), h.tb.fr f fun b hb => d b (.inl hb), f.old _ _ h.dn (o (by simp [HlA.own])), h.le.fr f (o (by simp [HlA.own])), h.te.fr f (o (by simp [HlA.own])), h.br.fr f (o (by simp [HlA.own])), h.nd, h.ap⟩
theorem HlAt.fr0 (h : HlAt K H A M) (f : Fr No H H') : HlAt K H' A M := h.fr f fun _ _ z => z
theorem HlAt.ext (h : HlAt K H A M) (e : LamX.ExtN H H') : HlAt K H' A M := ⟨e _ _ h.ins (fun ps z => by cases z), h.tb.ext e, e _ _ h.dn (fun ps z => by cases z), h.le.ext e, h.te.ext e, h.br.ext e, h.nd, h.ap⟩
theorem HlAt.ne (h : HlAt K H A M) : (A.p ≠ A.dn ∧ A.p ≠ A.le ∧ A.p ≠ A.te ∧ A.p ≠ A.br) ∧ (A.dn ≠ A.le ∧ A.dn ≠ A.te ∧ A.dn ≠ A.br) ∧ (A.le ≠ A.te ∧ A.le ≠ A.br) ∧ A.te ≠ A.br := by
  have nd := h.nd
  unfold HlA.own at nd
  simp only [List.nodup_cons, List.mem_cons, not_or, List.not_mem_nil, or_false, not_false_eq_true, true_and, List.nodup_nil, and_true] at nd
  obtain ⟨⟨p1, p2, p3, p4⟩, ⟨l1, l2, l3⟩, ⟨o1, o2⟩, t1⟩ := nd
  exact ⟨⟨p1, p2, p3, p4⟩, ⟨l1, l2, l3⟩, ⟨o1, o2⟩, t1⟩
theorem HlAt.old (h : HlAt K H A M) {b : Addr} (hb : A.has b) : ∃ o, H b = some o ∧ (∀ xs, o ≠ .tup xs) ∧ ∀ ps, o ≠ .tbl ps := by
  rcases hb with hb | hb
  · obtain ⟨o, e, n⟩ := h.tb.old hb
    obtain ⟨o2, e2, n2⟩ := Lw.bad_t h.tb hb
    rw [e] at e2
    cases e2
    exact ⟨o, e, n, n2⟩
  · unfold HlA.own at hb
    simp only [List.mem_cons, List.not_mem_nil, or_false] at hb
    obtain ⟨v1, e1, _⟩ := h.le
    obtain ⟨v2, e2, _⟩ := h.te
    obtain ⟨v3, e3, _⟩ := h.br
    rcases hb with e | e | e | e | e
    · rw [e]; exact ⟨_, h.ins, (fun xs z => by cases z), fun xs z => by cases z⟩
    · rw [e]; exact ⟨_, h.dn, (fun xs z => by cases z), fun xs z => by cases z⟩
    · rw [e]; exact ⟨_, e1, (fun xs z => by cases z), fun xs z => by cases z⟩
    · rw [e]; exact ⟨_, e2, (fun xs z => by cases z), fun xs z => by cases z⟩
    · rw [e]; exact ⟨_, e3, (fun xs z => by cases z), fun xs z => by cases z⟩
theorem HlAt.fresh (h : HlAt K H A M) {b : Addr} (hb : H b = none) : ¬ A.has b := fun z => by
  obtain ⟨o, e, _⟩ := h.old z
  rw [hb] at e
  cases e
theorem HlA.has_foot {b : Addr} (h : A.foot b) : A.has b := by
  rcases h with h | h
  · exact .inl (TA.has_foot h)
  · exact .inr (List.mem_cons_of_mem _ h)
theorem hl_old_foot (h : HlAt K H A M) : OldL A.foot H := fun b hb => by
  rcases hb with hb | hb
  · exact old_foot h.tb b hb
  · simp only [List.mem_cons, List.not_mem_nil, or_false] at hb
    obtain ⟨v1, e1, _⟩ := h.le
    obtain ⟨v2, e2, _⟩ := h.te
    obtain ⟨v3, e3, _⟩ := h.br
    rcases hb with e | e | e | e
    · rw [e]; exact ⟨_, h.dn⟩
    · rw [e]; exact ⟨_, e1⟩
    · rw [e]; exact ⟨_, e2⟩
    · rw [e]; exact ⟨_, e3⟩
/-- the table is another one -/
theorem HlAt.tab {T : Tb} (h : HlAt K H A M) (f : Fr A.t.foot H H') (ht : TbK K H' A.t T) : HlAt K H' A { M with t := T } := by
  have o : ∀ {b : Addr}, b ∈ A.own → ¬ A.t.foot b := fun hb z => h.ap _ hb (TA.has_foot z)
  exact ⟨f.old _ _ h.ins (o (by simp [HlA.own])), ht, f.old _ _ h.dn (o (by simp [HlA.own])), h.le.fr f (o (by simp [HlA.own])), h.te.fr f (o (by simp [HlA.own])), h.br.fr f (o (by simp [HlA.own])), h.nd, h.ap⟩
theorem HlA.foot_t : ∀ b, A.t.foot b → A.foot b := fun _ hb => .inl hb
theorem HlA.foot_1 {c : Addr} (hc : c ∈ [A.dn, A.le, A.te, A.br]) : ∀ b, Only1 c b → A.foot b := fun b hb => .inr (by rw [show b = c from hb]; exact hc)
theorem HlAt.tb1 {c : Addr} (h : HlAt K H A M) (f : Fr (Only1 c) H H') (hc : c ∈ A.own) : TbK K H' A.t M.t := h.tb.fr f fun b hb z => h.ap c hc (by rw [← show b = c from z]; exact hb)
theorem HlAt.uLe {r : List Lt} (h : HlAt K H A M) (f : Fr (Only1 A.le) H H') (hl : LsAt H' A.le (r.map Lt.d)) : HlAt K H' A { M with rd := r } := by
  obtain ⟨⟨p1, p2, p3, p4⟩, ⟨l1, l2, l3⟩, ⟨o1, o2⟩, t1⟩ := h.ne
  exact ⟨f.old _ _ h.ins p2, h.tb1 f (by simp [HlA.own]), f.old _ _ h.dn l1, hl, h.te.fr f o1.symm, h.br.fr f o2.symm, h.nd, h.ap⟩
theorem HlAt.uTe {r : List (Pth × Nat)} (h : HlAt K H A M) (f : Fr (Only1 A.te) H H') (hl : LsAt H' A.te (r.map tellD)) : HlAt K H' A { M with tl := r } := by
  obtain ⟨⟨p1, p2, p3, p4⟩, ⟨l1, l2, l3⟩, ⟨o1, o2⟩, t1⟩ := h.ne
  exact ⟨f.old _ _ h.ins p3, h.tb1 f (by simp [HlA.own]), f.old _ _ h.dn l2, h.le.fr f o1, hl, h.br.fr f t1.symm, h.nd, h.ap⟩
theorem HlAt.uBr {r : List (Nat × Nat)} (h : HlAt K H A M) (f : Fr (Only1 A.br) H H') (hl : LsAt H' A.br (r.map brokD)) : HlAt K H' A { M with br := r } := by
  obtain ⟨⟨p1, p2, p3, p4⟩, ⟨l1, l2, l3⟩, ⟨o1, o2⟩, t1⟩ := h.ne
  exact ⟨f.old _ _ h.ins p4, h.tb1 f (by simp [HlA.own]), f.old _ _ h.dn l3, h.le.fr f o2, h.te.fr f t1, hl, h.nd, h.ap⟩
theorem HlAt.uDn {r : List Bool} (h : HlAt K H A M) (f : Fr (Only1 A.dn) H H') (hl : H' A.dn = some (.lst (r.map V.bl))) : HlAt K H' A { M with dn := r } := by
  obtain ⟨⟨p1, p2, p3, p4⟩, ⟨l1, l2, l3⟩, ⟨o1, o2⟩, t1⟩ := h.ne
  exact ⟨f.old _ _ h.ins p1, h.tb1 f (by simp [HlA.own]), hl, h.le.fr f l1.symm, h.te.fr f l2.symm, h.br.fr f l3.symm, h.nd, h.ap⟩
/-- a letter is laid -/
theorem h_lay {x : Lt} (h : HlAt K H A M) (hv : Td H v x.d) (hl : M.rd.length ≤ 2000) (q : ∀ H', HlAt K H' A (M.lay x) → Fr A.foot H H' → Q .non H') : rAppend (.ref A.le) [v] H Q := by
  refine r_appLs h.le hv (by rw [List.length_map]; exact hl) fun H' hl' f => q H' (h.uLe f ?_) (f.mono (HlA.foot_1 (by simp)))
  rw [List.map_append]
  exact hl'
theorem h_pop {i : Nat} {x : Lt} (h : HlAt K H A M) (hi : M.rd[i]? = some x) (hl : M.rd.length ≤ 2000) (q : ∀ v H', Td H' v x.d → HlAt K H' A (M.drop i) → Fr A.foot H H' → Q v H') : rPopAt (.ref A.le) [.int (i : Int)] H Q := by
  have hi2 := (List.getElem?_eq_some_iff.mp hi).1
  refine r_popLs h.le (by rw [List.getElem?_map, hi]; rfl) (by omega) fun v H' t hl' f => q v H' t (h.uLe f ?_) (f.mono (HlA.foot_1 (by simp)))
  rw [← map_eraseIdx]
  exact hl'
theorem h_lenDn (h : HlAt K H A M) (q : Q (.int (M.dn.length : Int)) H) : rLenQ K [.ref A.dn] H Q := r_lenS h.dn (by rw [List.length_map]; exact q)
theorem h_lenLe (h : HlAt K H A M) (q : Q (.int (M.rd.length : Int)) H) : rLenQ K [.ref A.le] H Q := ls_len h.le (by rw [List.length_map]; exact q)
theorem h_ixDn {i : Nat} (h : HlAt K H A M) (hi : i < M.dn.length) (q : Q (.bl (M.dn.getD i false)) H) : rIxL K (.ref A.dn) (.int (i : Int)) H Q := r_ixl h.dn (map_at hi) q
theorem h_setDn {i : Nat} {b : Bool} {QH : Hp → Prop} (h : HlAt K H A M) (hi : i < M.dn.length) (q : ∀ H', HlAt K H' A (M.set i b) → Fr A.foot H H' → QH H') : rSetL (.ref A.dn) (.int (i : Int)) (.bl b) H QH := by
  have f : Fr (Only1 A.dn) H (upd H A.dn (.lst ((M.dn.map V.bl).set i (.bl b)))) := Fr.put h.dn (fun xs z => by cases z)
  refine r_setl h.dn (by rw [List.length_map]; exact hi) (q _ (h.uDn f ?_) (f.mono (HlA.foot_1 (by simp))))
  rw [upd_same, map_set]
end
/-! ### the law's hall -/
structure HmA where
  d : Addr
  dn : Addr
  ro : Addr
  to : Addr
  br : Addr
  t : LA
def HmA.own (B : HmA) : List Addr := [B.d, B.dn, B.ro, B.to, B.br]
def HmA.foot (B : HmA) : Addr → Prop := fun b => B.t.foot b ∨ b ∈ [B.dn, B.ro, B.to, B.br]
def HmA.has (B : HmA) : Addr → Prop := fun b => B.t.has b ∨ b ∈ B.own
def HmA.kvs (B : HmA) : List (Key × V) := [(.inr "t", .ref B.t.d), (.inr "down", .ref B.dn), (.inr "road", .ref B.ro), (.inr "told", .ref B.to), (.inr "broken", .ref B.br)]
structure HmAt (H : Hp) (B : HmA) (M : Hl) : Prop where
  dic : H B.d = some (.dK B.kvs)
  td : LdAt H B.t M.t
  dn : H B.dn = some (.lst (M.dn.map V.bl))
  ro : LsAt H B.ro (M.rd.map Lt.d)
  to : LsAt H B.to (M.tl.map tellD)
  br : LsAt H B.br (M.br.map brokD)
  nd : B.own.Nodup
  ap : ∀ b ∈ B.own, ¬ B.t.has b
  bd : ∀ b ∈ B.own, B.t.bad b
section
variable {K : PySem.W.Frag} {H H' : Hp} {Q : VK} {B : HmA} {M : Hl} {S : Addr → Prop} {v : V}
theorem r_dgT (h : HmAt H B M) (q : Q (.ref B.t.d) H) : DgOn (.ref B.d) (.str "t") H Q := ⟨B.d, _, rfl, DGet.k (k := .inr "t") h.dic, q⟩
theorem r_dgDn (h : HmAt H B M) (q : Q (.ref B.dn) H) : DgOn (.ref B.d) (.str "down") H Q := ⟨B.d, _, rfl, DGet.k (k := .inr "down") h.dic, q⟩
theorem r_dgRo (h : HmAt H B M) (q : Q (.ref B.ro) H) : DgOn (.ref B.d) (.str "road") H Q := ⟨B.d, _, rfl, DGet.k (k := .inr "road") h.dic, q⟩
theorem r_dgTo (h : HmAt H B M) (q : Q (.ref B.to) H) : DgOn (.ref B.d) (.str "told") H Q := ⟨B.d, _, rfl, DGet.k (k := .inr "told") h.dic, q⟩
theorem r_dgBr (h : HmAt H B M) (q : Q (.ref B.br) H) : DgOn (.ref B.d) (.str "broken") H Q := ⟨B.d, _, rfl, DGet.k (k := .inr "broken") h.dic, q⟩
theorem HmAt.fr (h : HmAt H B M) (f : Fr S H H') (h1 : ∀ b, S b → B.t.bad b) (d : ∀ b, B.has b → ¬ S b) : HmAt H' B M := by
  have o : ∀ {b : Addr}, b ∈ B.own → ¬ S b := fun hb => d _ (.inr hb)
  exact ⟨f.old _ _ h.dic (o (by simp [HmA.own])), h.td.fr f h1 fun b hb => d b (.inl hb), f.old _ _ h.dn (o (by simp [HmA.own])), h.ro.fr f (o (by simp [HmA.own])), h.to.fr f (o (by simp [HmA.own])), h.br.fr f (o (by simp [HmA.own])), h.nd, h.ap, h.bd⟩
theorem HmAt.fr0 (h : HmAt H B M) (f : Fr No H H') : HmAt H' B M := h.fr f (fun _ z => z.elim) fun _ _ z => z
theorem HmAt.ext (h : HmAt H B M) (e : LamX.ExtN H H') (hb : ∀ b, B.t.bad b → ∃ o, H b = some o ∧ ∀ ps, o ≠ .tbl ps) : HmAt H' B M := ⟨e _ _ h.dic (fun ps z => by cases z), h.td.ext e hb, e _ _ h.dn (fun ps z => by cases z), h.ro.ext e, h.to.ext e, h.br.ext e, h.nd, h.ap, h.bd⟩
theorem HmAt.ne (h : HmAt H B M) : (B.d ≠ B.dn ∧ B.d ≠ B.ro ∧ B.d ≠ B.to ∧ B.d ≠ B.br) ∧ (B.dn ≠ B.ro ∧ B.dn ≠ B.to ∧ B.dn ≠ B.br) ∧ (B.ro ≠ B.to ∧ B.ro ≠ B.br) ∧ B.to ≠ B.br := by
  have nd := h.nd
  unfold HmA.own at nd
  simp only [List.nodup_cons, List.mem_cons, not_or, List.not_mem_nil, or_false, not_false_eq_true, true_and, List.nodup_nil, and_true] at nd
  obtain ⟨⟨p1, p2, p3, p4⟩, ⟨l1, l2, l3⟩, ⟨o1, o2⟩, t1⟩ := nd
  exact ⟨⟨p1, p2, p3, p4⟩, ⟨l1, l2, l3⟩, ⟨o1, o2⟩, t1⟩
theorem HmAt.old (h : HmAt H B M) {b : Addr} (hb : B.has b) : ∃ o, H b = some o ∧ (∀ xs, o ≠ .tup xs) ∧ ∀ ps, o ≠ .tbl ps := by
  rcases hb with hb | hb
  · obtain ⟨o, e, n⟩ := h.td.has_old hb
    obtain ⟨o2, e2, n2⟩ := Lw.bad_l h.td hb
    rw [e] at e2
    cases e2
    exact ⟨o, e, n, n2⟩
  · unfold HmA.own at hb
    simp only [List.mem_cons, List.not_mem_nil, or_false] at hb
    obtain ⟨v1, e1, _⟩ := h.ro
    obtain ⟨v2, e2, _⟩ := h.to
    obtain ⟨v3, e3, _⟩ := h.br
    rcases hb with e | e | e | e | e
    · rw [e]; exact ⟨_, h.dic, (fun xs z => by cases z), fun xs z => by cases z⟩
    · rw [e]; exact ⟨_, h.dn, (fun xs z => by cases z), fun xs z => by cases z⟩
    · rw [e]; exact ⟨_, e1, (fun xs z => by cases z), fun xs z => by cases z⟩
    · rw [e]; exact ⟨_, e2, (fun xs z => by cases z), fun xs z => by cases z⟩
    · rw [e]; exact ⟨_, e3, (fun xs z => by cases z), fun xs z => by cases z⟩
theorem HmA.has_foot {b : Addr} (h : B.foot b) : B.has b := by
  rcases h with h | h
  · exact .inl (LA.has_foot h)
  · exact .inr (List.mem_cons_of_mem _ h)
theorem hm_old_foot (h : HmAt H B M) : OldL B.foot H := fun b hb => by
  rcases hb with hb | hb
  · exact old_lfoot h.td b hb
  · simp only [List.mem_cons, List.not_mem_nil, or_false] at hb
    obtain ⟨v1, e1, _⟩ := h.ro
    obtain ⟨v2, e2, _⟩ := h.to
    obtain ⟨v3, e3, _⟩ := h.br
    rcases hb with e | e | e | e
    · rw [e]; exact ⟨_, h.dn⟩
    · rw [e]; exact ⟨_, e1⟩
    · rw [e]; exact ⟨_, e2⟩
    · rw [e]; exact ⟨_, e3⟩
theorem HmAt.tab {T : Tb} (h : HmAt H B M) (f : Fr B.t.foot H H') (ht : LdAt H' B.t T) : HmAt H' B { M with t := T } := by
  have o : ∀ {b : Addr}, b ∈ B.own → ¬ B.t.foot b := fun hb z => h.ap _ hb (LA.has_foot z)
  exact ⟨f.old _ _ h.dic (o (by simp [HmA.own])), ht, f.old _ _ h.dn (o (by simp [HmA.own])), h.ro.fr f (o (by simp [HmA.own])), h.to.fr f (o (by simp [HmA.own])), h.br.fr f (o (by simp [HmA.own])), h.nd, h.ap, h.bd⟩
theorem HmA.foot_t : ∀ b, B.t.foot b → B.foot b := fun _ hb => .inl hb
theorem HmA.foot_1 {c : Addr} (hc : c ∈ [B.dn, B.ro, B.to, B.br]) : ∀ b, Only1 c b → B.foot b := fun b hb => .inr (by rw [show b = c from hb]; exact hc)
theorem HmAt.td1 {c : Addr} (h : HmAt H B M) (f : Fr (Only1 c) H H') (hc : c ∈ B.own) : LdAt H' B.t M.t := h.td.fr f (fun b hb => by rw [show b = c from hb]; exact h.bd c hc) fun b hb z => h.ap c hc (by rw [← show b = c from z]; exact hb)
theorem HmAt.uRo {r : List Lt} (h : HmAt H B M) (f : Fr (Only1 B.ro) H H') (hl : LsAt H' B.ro (r.map Lt.d)) : HmAt H' B { M with rd := r } := by
  obtain ⟨⟨p1, p2, p3, p4⟩, ⟨l1, l2, l3⟩, ⟨o1, o2⟩, t1⟩ := h.ne
  exact ⟨f.old _ _ h.dic p2, h.td1 f (by simp [HmA.own]), f.old _ _ h.dn l1, hl, h.to.fr f o1.symm, h.br.fr f o2.symm, h.nd, h.ap, h.bd⟩
theorem HmAt.uTo {r : List (Pth × Nat)} (h : HmAt H B M) (f : Fr (Only1 B.to) H H') (hl : LsAt H' B.to (r.map tellD)) : HmAt H' B { M with tl := r } := by
  obtain ⟨⟨p1, p2, p3, p4⟩, ⟨l1, l2, l3⟩, ⟨o1, o2⟩, t1⟩ := h.ne
  exact ⟨f.old _ _ h.dic p3, h.td1 f (by simp [HmA.own]), f.old _ _ h.dn l2, h.ro.fr f o1, hl, h.br.fr f t1.symm, h.nd, h.ap, h.bd⟩
theorem HmAt.uBr {r : List (Nat × Nat)} (h : HmAt H B M) (f : Fr (Only1 B.br) H H') (hl : LsAt H' B.br (r.map brokD)) : HmAt H' B { M with br := r } := by
  obtain ⟨⟨p1, p2, p3, p4⟩, ⟨l1, l2, l3⟩, ⟨o1, o2⟩, t1⟩ := h.ne
  exact ⟨f.old _ _ h.dic p4, h.td1 f (by simp [HmA.own]), f.old _ _ h.dn l3, h.ro.fr f o2, h.to.fr f t1, hl, h.nd, h.ap, h.bd⟩
theorem HmAt.uDn {r : List Bool} (h : HmAt H B M) (f : Fr (Only1 B.dn) H H') (hl : H' B.dn = some (.lst (r.map V.bl))) : HmAt H' B { M with dn := r } := by
  obtain ⟨⟨p1, p2, p3, p4⟩, ⟨l1, l2, l3⟩, ⟨o1, o2⟩, t1⟩ := h.ne
  exact ⟨f.old _ _ h.dic p1, h.td1 f (by simp [HmA.own]), hl, h.ro.fr f l1.symm, h.to.fr f l2.symm, h.br.fr f l3.symm, h.nd, h.ap, h.bd⟩
theorem m_lay {x : Lt} (h : HmAt H B M) (hv : Td H v x.d) (hl : M.rd.length ≤ 2000) (q : ∀ H', HmAt H' B (M.lay x) → Fr B.foot H H' → Q .non H') : rAppend (.ref B.ro) [v] H Q := by
  refine r_appLs h.ro hv (by rw [List.length_map]; exact hl) fun H' hl' f => q H' (h.uRo f ?_) (f.mono (HmA.foot_1 (by simp)))
  rw [List.map_append]
  exact hl'
theorem m_pop {i : Nat} {x : Lt} (h : HmAt H B M) (hi : M.rd[i]? = some x) (hl : M.rd.length ≤ 2000) (q : ∀ v H', Td H' v x.d → HmAt H' B (M.drop i) → Fr B.foot H H' → Q v H') : rPopAt (.ref B.ro) [.int (i : Int)] H Q := by
  have hi2 := (List.getElem?_eq_some_iff.mp hi).1
  refine r_popLs h.ro (by rw [List.getElem?_map, hi]; rfl) (by omega) fun v H' t hl' f => q v H' t (h.uRo f ?_) (f.mono (HmA.foot_1 (by simp)))
  rw [← map_eraseIdx]
  exact hl'
theorem m_lenDn (h : HmAt H B M) (q : Q (.int (M.dn.length : Int)) H) : rLenQ K [.ref B.dn] H Q := r_lenS h.dn (by rw [List.length_map]; exact q)
theorem m_lenRo (h : HmAt H B M) (q : Q (.int (M.rd.length : Int)) H) : rLenQ K [.ref B.ro] H Q := ls_len h.ro (by rw [List.length_map]; exact q)
theorem m_ixDn {i : Nat} (h : HmAt H B M) (hi : i < M.dn.length) (q : Q (.bl (M.dn.getD i false)) H) : rIxL K (.ref B.dn) (.int (i : Int)) H Q := r_ixl h.dn (map_at hi) q
theorem m_setDn {i : Nat} {b : Bool} {QH : Hp → Prop} (h : HmAt H B M) (hi : i < M.dn.length) (q : ∀ H', HmAt H' B (M.set i b) → Fr B.foot H H' → QH H') : rSetL (.ref B.dn) (.int (i : Int)) (.bl b) H QH := by
  have f : Fr (Only1 B.dn) H (upd H B.dn (.lst ((M.dn.map V.bl).set i (.bl b)))) := Fr.put h.dn (fun xs z => by cases z)
  refine r_setl h.dn (by rw [List.length_map]; exact hi) (q _ (h.uDn f ?_) (f.mono (HmA.foot_1 (by simp))))
  rw [upd_same, map_set]
end
end AL

namespace AL
open PySem PySem.Spec PyProof.Rows L2
/-! # the promises of a hall's methods -/
structure Hl.Few (M : Hl) : Prop where
  rd : M.rd.length ≤ 1980
  tl : M.tl.length ≤ 1980
  br : M.br.length ≤ 1980
abbrev sp_h_is_down (K : PySem.W.Frag) : Sp := sp2 fun x y H Q _ => ∃ A M, ∃ k : Nat, x = .ref A.p ∧ y = .int (k : Int) ∧ HlAt K H A M ∧ M.Ok ∧ Q (.bl (M.isDown k)) H
abbrev sp_h_need_up (K : PySem.W.Frag) : Sp := sp3 fun x y z H Q E => ∃ A M a l, x = .ref A.p ∧ y = .int a ∧ z = .int l ∧ HlAt K H A M ∧ M.Ok ∧ (∀ w, M.t.fault a l = some w → eW K w E H) ∧
  (M.t.fault a l = none → (M.isDown a.toNat = true ∨ M.isDown l.toNat = true) → eW K .stopped E H) ∧ (M.t.fault a l = none → ¬ (M.isDown a.toNat = true ∨ M.isDown l.toNat = true) → Q .non H)
abbrev sp_h_own (K : PySem.W.Frag) : Sp := sp2 fun x y H Q _ => ∃ A M, ∃ a : Nat, x = .ref A.p ∧ y = .int (a : Int) ∧ HlAt K H A M ∧ M.Ok ∧ a < M.t.n ∧ ∀ v H', Td H' v (M.own a).d → Fr No H H' → Q v H'
abbrev sp_h_seek (K : PySem.W.Frag) : Sp := sp2 fun x y H Q _ => ∃ A M, ∃ a : Nat, x = .ref A.p ∧ y = .int (a : Int) ∧ HlAt K H A M ∧ M.Ok ∧ a < M.t.n ∧ M.t.wa a ≠ none ∧ M.rd.length ≤ 2000 ∧ ∀ H', HlAt K H' A (M.seek a) → Fr A.foot H H' → Q .non H'
abbrev sp_h_ask (K : PySem.W.Frag) : Sp := sp3 fun x y z H Q E => ∃ A M a l, x = .ref A.p ∧ y = .int a ∧ z = .int l ∧ HlAt K H A M ∧ M.Ok ∧ M.rd.length ≤ 2000 ∧ (∀ w, (M.askR a l).1 = .error w → eW K w E H) ∧
  ∀ o H', (M.askR a l).1 = .ok o → HlAt K H' A (M.askR a l).2 → Fr A.foot H H' → Q o.v H'
abbrev sp_h_give (K : PySem.W.Frag) : Sp := sp3 fun x y z H Q E => ∃ A M a l, x = .ref A.p ∧ y = .int a ∧ z = .int l ∧ HlAt K H A M ∧ M.Ok ∧ (∀ w, (M.giveR a l).1 = .error w → eW K w E H) ∧
  ∀ o H', (M.giveR a l).1 = .ok o → HlAt K H' A (M.giveR a l).2 → Fr A.foot H H' → Q o.v H'
abbrev sp_h_again (K : PySem.W.Frag) : Sp := sp1 fun x H Q _ => ∃ A M, x = .ref A.p ∧ HlAt K H A M ∧ M.Ok ∧ M.rd.length ≤ 1990 ∧ ∀ H', HlAt K H' A M.again → Fr A.foot H H' → Q .non H'
abbrev sp_h_waits_by (K : PySem.W.Frag) : Sp := sp3 fun x y z H Q _ => ∃ A M, ∃ a w : Nat, x = .ref A.p ∧ y = .int (a : Int) ∧ z = .int (w : Int) ∧ HlAt K H A M ∧ a < M.t.n ∧ Q (.bl (M.by_ a w)) H
abbrev sp_h_house_number (K : PySem.W.Frag) : Sp := sp2 fun x y H Q _ => ∃ A M X, x = .ref A.p ∧ HlAt K H A M ∧ Td H y (Lt.d X) ∧ LOk M.t X ∧ ∀ H', Fr No H H' → Q (.int (Hl.home X : Int)) H'
abbrev sp_h_who (K : PySem.W.Frag) : Sp := sp3 fun x y z H Q _ => ∃ A M p, ∃ l : Nat, x = .ref A.p ∧ z = .int (l : Int) ∧ HlAt K H A M ∧ M.Ok ∧ Td H y (pathD p) ∧ l < M.t.m ∧ M.rd.length ≤ 2000 ∧ ∀ H', HlAt K H' A (M.who p l) → Fr A.foot H H' → Q .non H'
abbrev sp_h_come (K : PySem.W.Frag) : Sp := sp5 fun x y z u v H Q _ => ∃ A M p, ∃ a l h : Nat, x = .ref A.p ∧ z = .int (a : Int) ∧ u = .int (l : Int) ∧ v = .int (h : Int) ∧ HlAt K H A M ∧ M.Ok ∧ Td H y (pathD p) ∧ POk M.t p ∧ a < M.t.n ∧ l < M.t.m ∧ M.rd.length ≤ 2000 ∧
  ∀ H', HlAt K H' A (M.come p a l h) → Fr A.foot H H' → Q .non H'
abbrev sp_h_still (K : PySem.W.Frag) : Sp := sp3 fun x y z H Q _ => ∃ A M p, ∃ i : Nat, x = .ref A.p ∧ z = .int (i : Int) ∧ HlAt K H A M ∧ M.Ok ∧ Td H y (pathD p) ∧ POk M.t p ∧ i < p.length ∧ M.rd.length ≤ 2000 ∧ M.tl.length ≤ 2000 ∧
  ∀ H', HlAt K H' A (M.still p i) → Fr A.foot H H' → Q .non H'
abbrev sp_h_need_letter (K : PySem.W.Frag) : Sp := sp2 fun x y H Q E => ∃ A M i, x = .ref A.p ∧ y = .int i ∧ HlAt K H A M ∧ (M.isLt i → Q .non H) ∧ (¬ M.isLt i → eW K .noLetter E H)
abbrev sp_h_carry (K : PySem.W.Frag) : Sp := sp2 fun x y H Q E => ∃ A M i, x = .ref A.p ∧ y = .int i ∧ HlAt K H A M ∧ M.Ok ∧ M.Few ∧ (¬ M.isLt i → eW K .noLetter E H) ∧ (M.isLt i → ∀ H', HlAt K H' A (M.carry i.toNat) → Fr A.foot H H' → Q .non H')
abbrev sp_h_lose (K : PySem.W.Frag) : Sp := sp2 fun x y H Q E => ∃ A M i, x = .ref A.p ∧ y = .int i ∧ HlAt K H A M ∧ M.Few ∧ (¬ M.isLt i → eW K .noLetter E H) ∧ (M.isLt i → ∀ H', HlAt K H' A (M.drop i.toNat) → Fr A.foot H H' → Q .non H')
abbrev sp_h_double (K : PySem.W.Frag) : Sp := sp2 fun x y H Q E => ∃ A M i, x = .ref A.p ∧ y = .int i ∧ HlAt K H A M ∧ M.Few ∧ (¬ M.isLt i → eW K .noLetter E H) ∧ (M.isLt i → ∀ H', HlAt K H' A (M.lay (M.rd.getD i.toNat (.brk 0 0))) → Fr A.foot H H' → Q .non H')
abbrev sp_h_need_house (K : PySem.W.Frag) : Sp := sp2 fun x y H Q E => ∃ A M i, x = .ref A.p ∧ y = .int i ∧ HlAt K H A M ∧ (M.isHs i → Q .non H) ∧ (¬ M.isHs i → eW K .noHouse E H)
abbrev sp_h_stop (K : PySem.W.Frag) : Sp := sp2 fun x y H Q E => ∃ A M i, x = .ref A.p ∧ y = .int i ∧ HlAt K H A M ∧ (∀ w, (M.stopR i).1 = .error w → eW K w E H) ∧ ∀ o H', (M.stopR i).1 = .ok o → HlAt K H' A (M.stopR i).2 → Fr A.foot H H' → Q o.v H'
abbrev sp_h_rise (K : PySem.W.Frag) : Sp := sp2 fun x y H Q E => ∃ A M i, x = .ref A.p ∧ y = .int i ∧ HlAt K H A M ∧ (∀ w, (M.riseR i).1 = .error w → eW K w E H) ∧ ∀ o H', (M.riseR i).1 = .ok o → HlAt K H' A (M.riseR i).2 → Fr A.foot H H' → Q o.v H'
abbrev sp_h_road (K : PySem.W.Frag) : Sp := sp1 fun x H Q _ => ∃ A M, x = .ref A.p ∧ HlAt K H A M ∧ ∀ c H', H c = none → LsAt H' c (M.rd.map Lt.d) → Fr No H H' → Q (.ref c) H'
abbrev sp_h_told (K : PySem.W.Frag) : Sp := sp1 fun x H Q _ => ∃ A M, x = .ref A.p ∧ HlAt K H A M ∧ ∀ c H', H c = none → LsAt H' c (M.tl.map tellD) → Fr No H H' → Q (.ref c) H'
abbrev sp_h_broken (K : PySem.W.Frag) : Sp := sp1 fun x H Q _ => ∃ A M, x = .ref A.p ∧ HlAt K H A M ∧ ∀ c H', H c = none → LsAt H' c (M.br.map brokD) → Fr No H H' → Q (.ref c) H'
abbrev sp_h_table (K : PySem.W.Frag) : Sp := sp1 fun x H Q _ => ∃ A M, x = .ref A.p ∧ HlAt K H A M ∧ ∀ C H', TbK K H' C M.t → Fr No H H' → (∀ b, C.has b → H b = none) → Q (.ref C.p) H'
abbrev sp_made_table (K : PySem.W.Frag) : Sp := sp2 fun x y H Q E => ∃ a l, x = .int a ∧ y = .int l ∧ (¬ TbOk a l → ∀ H', Fr No H H' → eW K .noHall E H') ∧
  (TbOk a l → ∀ A H', TbK K H' A (Tb.new a.toNat l.toNat) → Fr No H H' → (∀ b, A.has b → H b = none) → Q (.ref A.p) H')
def HlOk (a l h : Int) : Prop := TbOk a l ∧ 1 ≤ h ∧ h ≤ 4
abbrev sp_h_init (K : PySem.W.Frag) : Sp := sp4 fun x y z u H Q E => ∃ p dx a l h, x = .ref p ∧ y = .int a ∧ z = .int l ∧ u = .int h ∧ H p = some (.ins (hlC K) dx []) ∧ (¬ HlOk a l h → ∀ H', Fr (Only1 p) H H' → eW K .noHall E H') ∧
  (HlOk a l h → ∀ A H', A.p = p → HlAt K H' A (Hl.fresh a.toNat l.toNat h.toNat) → Fr (Only1 p) H H' → (∀ b, A.has b → b ≠ p → H b = none) → Q .non H')
/-! ### steps -/
section
variable {K : PySem.W.Frag} {H : Hp} {Q : VK} {A : HlA} {M : Hl}
theorem h_modDn (h : HlAt K H A M) (O : M.Ok) {k : Nat} (q : Q (.bl (M.isDown k)) H) : rIxL K (.ref A.dn) (.int ((k : Int) % (M.dn.length : Int))) H Q := by
  have e : (k : Int) % (M.dn.length : Int) = ((k % M.dn.length : Nat) : Int) := by omega
  rw [e]
  exact h_ixDn h (Nat.mod_lt _ O.h1) q
end
namespace Hl
variable {M : Hl}
theorem own_d (a : Nat) : (M.own a).d = .tuple [.int (a : Int), .int (M.t.ro a : Int), .int ((M.t.held a).length : Int)] := rfl
theorem seek_some {a l : Nat} (h : M.t.wa a = some l) : M.seek a = M.lay (.who [M.own a] l) := by
  unfold Hl.seek
  rw [h]
end Hl
end AL

namespace AL
open PySem PySem.Spec PyProof.Rows L2
/-! # paths: what the letters' readings need -/
section
variable {K : PySem.W.Frag} {H : Hp} {Q : VK}
theorem r_catP {a b : Addr} {vs : List V} {v : V} {p : Pth} {x : Pt} (ea : H a = some (.tup vs)) (av : TdAll H vs (p.map Pt.d)) (hp : p ≠ []) (eb : H b = some (.tup [v])) (tv : Td H v x.d) (hl : p.length ≤ 900) (q : ∀ u H', Td H' u (pathD (p ++ [x])) → Fr No H H' → Q u H') : rCatA K (.ref a) (.ref b) H Q := by
  have el : vs.length = p.length := by rw [av.len, List.length_map]
  refine ⟨a, b, _, _, rfl, rfl, SqT.of ea, SqT.of eb, ?_, fun e => ?_, (fun _ e => by cases e), fun _ _ c hc => ?_⟩
  · rw [el]
    exact Nat.le_of_lt (small2000 (by show _ + 1 ≤ 2000; omega))
  · rw [e] at el
    exact absurd (List.eq_nil_of_length_eq_zero el.symm) hp
  · have f : Fr No H (upd H c (.tup (vs ++ [v]))) := Fr.new hc
    refine q _ _ ?_ f
    show Td _ _ (.tuple ((p ++ [x]).map Pt.d))
    rw [List.map_append]
    exact .tup upd_same ((av.fr f).app (TdAll.one (tv.fr f)))
end
theorem head_getD (p : Pth) : p.getD 0 ⟨0, 0, 0⟩ = p.headD ⟨0, 0, 0⟩ := by cases p <;> rfl
theorem filter_one : ∀ {p : Pth} {x : Pt}, (p.map Pt.a).Nodup → x ∈ p → p.filter (fun y => decide (y.a = x.a)) = [x]
  | z :: r, x, nd, hx => by
    rw [List.map_cons, List.nodup_cons] at nd
    rcases List.mem_cons.mp hx with e | e
    · subst e
      rw [List.filter_cons, if_pos (by simp)]
      congr 1
      refine List.filter_eq_nil_iff.mpr fun y hy q => nd.1 ?_
      have := of_decide_eq_true q
      exact List.mem_map.mpr ⟨y, hy, this⟩
    · rw [List.filter_cons, if_neg (fun q => nd.1 (List.mem_map.mpr ⟨x, e, (of_decide_eq_true q).symm⟩))]
      exact filter_one nd.2 e
theorem pt_cmp (x : Pt) : x.d.canLay0 = true ∧ x.d.depth = 1 := by
  unfold Pt.d
  refine ⟨by simp [PyData.canLay0, PyData.canLayAll0], ?_⟩
  simp only [PyData.depth, PyData.depthAll]
  decide
theorem pts_all : ∀ p : Pth, PyData.canLayAll0 (p.map Pt.d) = true ∧ PyData.depthAll (p.map Pt.d) ≤ 1
  | [] => by simp [PyData.canLayAll0, PyData.depthAll]
  | x :: r => by
    obtain ⟨h1, h2⟩ := pts_all r
    obtain ⟨g1, g2⟩ := pt_cmp x
    refine ⟨by simp only [List.map_cons, PyData.canLayAll0, g1, h1, Bool.and_self], ?_⟩
    simp only [List.map_cons, PyData.depthAll, g2]
    omega
theorem path_cmp (p : Pth) : (pathD p).canLay0 = true ∧ (pathD p).depth ≤ 2 := by
  obtain ⟨h1, h2⟩ := pts_all p
  unfold pathD
  refine ⟨by simp only [PyData.canLay0]; exact h1, ?_⟩
  simp only [PyData.depth]
  omega
theorem path_shaped (p : Pth) : SeqAt.shaped (pathD p) = true := (show Cmp (pathD p) from ⟨(path_cmp p).1, Nat.le_trans (path_cmp p).2 (by decide)⟩).shaped
theorem tells_shaped (rs : List (Pth × Nat)) : SeqAt.shaped (.list (rs.map fun r => pathD r.1)) = true := (CmpAll.of fun d hd => by
  obtain ⟨r, _, rfl⟩ := List.mem_map.mp hd
  exact ⟨(path_cmp _).1, Nat.le_trans (path_cmp _).2 (by decide)⟩).shaped
/-- a told row -/
theorem tell_at {H : Hp} {v : V} {r : Pth × Nat} (h : Td H v (tellD r)) : ∃ a pv, v = .ref a ∧ H a = some (.tup [pv, .int (r.2 : Int)]) ∧ Td H pv (pathD r.1) := by
  obtain ⟨a, vs, rfl, e, h⟩ := td_ref h
  obtain ⟨v1, r1, rfl, t1, h⟩ := td_c h
  obtain ⟨v2, r2, rfl, t2, h⟩ := td_c h
  rw [td_n h, td_int t2] at e
  exact ⟨a, v1, rfl, e, t1⟩
end AL

namespace AL
open PySem PySem.Spec PyProof.Rows L2
/-! # exceptions that bear no other one -/
structure OkN (P : Program) (w : World) (K : PySem.W.Frag) (mg : Str → Option Value) (base : Heap) (k : Nat) (f : Addr) (ps : List Str) (sp : Sp) : Prop where
  ex : ∃ fd, FnOk P w K mg base (L2N.CX P w) k f fd ps sp ∧ Binds K fd ps []
  kp : PySem.W.keepIn K (.ref f) = true
theorem okN {P : Program} {w : World} {K : PySem.W.Frag} {mg : Str → Option Value} {base : Heap} {x qual : Str} {st : Stmt} {f : Addr} {N ps : List Str} {k : Nat} {sp : Sp} (F : DefAt K x qual st f) (S : FnScope N ps (defScope st))
    (hbi : ∀ (kV doc pm : Value) (an : Option Addr) (cdv ct : Value) (us : List Value), us.length = ps.length → bindArgs (PySem.W.fnOf x qual (defArgs st) (defBody st) (defScope st) .none kV doc pm an cdv ct) ⟨us, []⟩ = pure (ps.zip us))
    (len : ∀ vs H Q E, sp vs H Q E → vs.length = ps.length)
    (hbody : ∀ (cdv : Value) (A : Around) (outer : List Env) (s : Shared) (H : Hp) (vs : List V) (Q : VK) (E : XK), Room k (A.deeper (envOfC qual (defScope st) s.heap.objs.size f cdv)) → sp vs H Q E →
      ∃ t, PSs (cxOf (L2N.CX P w) P w K mg base N qual (defScope st) f cdv A outer s H E) (defBody st) t ∧ t { nx := fun _ H' => Q .non H', rt := Q } (start N vs) H) : OkN P w K mg base (k + 1) f ps sp := by
  obtain ⟨fd, F⟩ := F
  exact ⟨⟨fd, F.ok S len hbody, F.bindsN hbi⟩, F.kp⟩
theorem cx_n {P : Program} {w : World} {outer : List Env} {H : Hp} {s s' : Shared} {E : XK} {u : Value} (c : L2N.CX P w outer H s E u s') : L2.CX P w outer H s E u s' := by
  obtain ⟨a, B, H', cls, d, e, fl, hok, ub, na, os, ag, q⟩ := c
  exact ⟨a, B, H', cls, d, e, L2H.flyingZ_imp (fun o z => z.zc) fl, hok, ub, na, os, ag, q⟩
theorem pN {X : Cx} {E : XK} (h : Passes (L2.CX X.prog X.w) X E) : Passes (L2N.CX X.prog X.w) X E := fun pins σ H s e s' I c => h pins σ H s e s' I (cx_n c)
end AL

namespace AL
open PySem PySem.Spec PyProof.Rows L2
/-! # the promises of the law's own hall -/
abbrev sp_Lhall (K : PySem.W.Frag) : Sp := sp3 fun x y z H Q _ => ∃ n m k : Nat, x = .int (n : Int) ∧ y = .int (m : Int) ∧ z = .int (k : Int) ∧ (Tb.new n m).Sz ∧ k ≤ 4 ∧ ∃ bad : Addr → Prop, (∀ b, bad b → H b ≠ none) ∧
  ∀ B H', HmAt H' B (Hl.fresh n m k) → Fr No H H' → (∀ b, B.has b → H b = none) → (∀ b, B.t.bad b ↔ (B.has b ∨ bad b)) → Q (.ref B.d) H'
abbrev sp_Ldown (K : PySem.W.Frag) : Sp := sp2 fun x y H Q _ => ∃ B M, ∃ k : Nat, x = .ref B.d ∧ y = .int (k : Int) ∧ HmAt H B M ∧ M.Ok ∧ Q (.bl (M.isDown k)) H
abbrev sp_Lown (K : PySem.W.Frag) : Sp := sp2 fun x y H Q _ => ∃ B M, ∃ a : Nat, x = .ref B.d ∧ y = .int (a : Int) ∧ HmAt H B M ∧ M.Ok ∧ a < M.t.n ∧ ∀ v H', Td H' v (M.own a).d → Fr No H H' → Q v H'
abbrev sp_Lseek (K : PySem.W.Frag) : Sp := sp2 fun x y H Q _ => ∃ B M, ∃ a : Nat, x = .ref B.d ∧ y = .int (a : Int) ∧ HmAt H B M ∧ M.Ok ∧ a < M.t.n ∧ M.t.wa a ≠ none ∧ M.rd.length ≤ 2000 ∧ ∀ H', HmAt H' B (M.seek a) → Fr B.foot H H' → Q .non H'
abbrev sp_Lwaits_by (K : PySem.W.Frag) : Sp := sp3 fun x y z H Q _ => ∃ B M, ∃ a w : Nat, x = .ref B.d ∧ y = .int (a : Int) ∧ z = .int (w : Int) ∧ HmAt H B M ∧ a < M.t.n ∧ Q (.bl (M.by_ a w)) H
abbrev sp_Lcome (K : PySem.W.Frag) : Sp := sp2 fun x y H Q _ => ∃ B M p, ∃ a l h : Nat, x = .ref B.d ∧ HmAt H B M ∧ M.Ok ∧ Td H y (Lt.is p a l h).d ∧ POk M.t p ∧ a < M.t.n ∧ l < M.t.m ∧ M.rd.length ≤ 2000 ∧ ∀ H', HmAt H' B (M.come p a l h) → Fr B.foot H H' → Q .non H'
abbrev sp_Lstill (K : PySem.W.Frag) : Sp := sp3 fun x y z H Q _ => ∃ B M p, ∃ i : Nat, x = .ref B.d ∧ z = .int (i : Int) ∧ HmAt H B M ∧ M.Ok ∧ Td H y (pathD p) ∧ POk M.t p ∧ i < p.length ∧ M.rd.length ≤ 2000 ∧ M.tl.length ≤ 2000 ∧ ∀ H', HmAt H' B (M.still p i) → Fr B.foot H H' → Q .non H'
abbrev sp_Lhome (K : PySem.W.Frag) : Sp := sp1 fun y H Q _ => ∃ T X, Td H y (Lt.d X) ∧ LOk T X ∧ Q (.int (Hl.home X : Int)) H
abbrev sp_Lcarry (K : PySem.W.Frag) : Sp := sp2 fun x y H Q _ => ∃ B M, ∃ i : Nat, x = .ref B.d ∧ y = .int (i : Int) ∧ HmAt H B M ∧ M.Ok ∧ M.Few ∧ i < M.rd.length ∧ ∀ H', HmAt H' B (M.carry i) → Fr B.foot H H' → Q .non H'
abbrev sp_Lof_table (K : PySem.W.Frag) : Sp := sp2 fun x y H Q _ => ∃ B M p, ∃ dd : Hd, ∃ a l : Int, x = .ref B.d ∧ y = .ref p ∧ HmAt H B M ∧ M.Ok ∧ M.rd.length ≤ 2000 ∧ H p = some (.tup dd.vs) ∧ (dd = .ask a l ∨ dd = .give a l) ∧ ∀ H', HmAt H' B (M.deedR dd).2 → Fr B.foot H H' → Q (hoV (M.deedR dd).1) H'
abbrev sp_Lof_houses (K : PySem.W.Frag) : Sp := sp3 fun x y z H Q _ => ∃ B M, ∃ s : Bool, ∃ i : Int, x = .ref B.d ∧ y = .str (if s = true then "stop" else "rise") ∧ z = .int i ∧ HmAt H B M ∧ ∀ H', HmAt H' B (M.deedR (if s = true then .stop i else .rise i)).2 → Fr B.foot H H' → Q (hoV (M.deedR (if s = true then .stop i else .rise i)).1) H'
abbrev sp_Lhdue (K : PySem.W.Frag) : Sp := sp2 fun x y H Q _ => ∃ B M p, ∃ dd : Hd, x = .ref B.d ∧ y = .ref p ∧ HmAt H B M ∧ M.Ok ∧ M.Few ∧ H p = some (.tup dd.vs) ∧ ∀ H', HmAt H' B (M.deedR dd).2 → Fr B.foot H H' → Q (hoV (M.deedR dd).1) H'
abbrev sp_Lhdoes (K : PySem.W.Frag) : Sp := sp2 fun x y H Q E => ∃ A M p, ∃ dd : Hd, x = .ref A.p ∧ y = .ref p ∧ HlAt K H A M ∧ M.Ok ∧ M.Few ∧ H p = some (.tup dd.vs) ∧ (∀ w, (M.deedR dd).1 = .error w → eW K w E H) ∧
  ∀ o H', (M.deedR dd).1 = .ok o → HlAt K H' A (M.deedR dd).2 → Fr A.foot H H' → Q o.v H'
section
variable {K : PySem.W.Frag} {H : Hp} {Q : VK} {B : HmA} {M : Hl}
theorem m_modDn (h : HmAt H B M) (O : M.Ok) {k : Nat} (q : Q (.bl (M.isDown k)) H) : rIxL K (.ref B.dn) (.int ((k : Int) % (M.dn.length : Int))) H Q := by
  have e : (k : Int) % (M.dn.length : Int) = ((k % M.dn.length : Nat) : Int) := by omega
  rw [e]
  exact m_ixDn h (Nat.mod_lt _ O.h1) q
end
end AL

namespace AL
open PySem PySem.Spec PyProof.Rows L2
/-! # sorted of triples: the first one -/
def rSort3 (K : PySem.W.Frag) : List V → Hp → VK → Prop := fun vs H Q => ∃ B, rSortU K 3 B vs H Q
theorem k_sort3 {X : Cx} {K : PySem.W.Frag} (hK : X.K = K) : CallR X (.builtin "sorted") (rSort3 K) := by
  subst hK
  intro pins s σ H vs us Q J r h
  obtain ⟨B, h⟩ := h
  exact cr_sortT (by decide) pins s σ H vs us Q J r h
def keyD (x : Pt) : PyData := .tuple [.int (x.g : Int), .int (x.a : Int), .int (x.w : Int)]
theorem code3 (B x y z : Int) : TS.code B [x, y, z] = x * (B * B) + y * B + z := by
  have e2 : B ^ 2 = B * B := by rw [Int.pow_succ, Int.pow_succ, Int.pow_zero, Int.one_mul]
  have e1 : B ^ 1 = B := by rw [Int.pow_succ, Int.pow_zero, Int.one_mul]
  have e0 : B ^ 0 = 1 := Int.pow_zero B
  show x * B ^ 2 + (y * B ^ 1 + (z * B ^ 0 + 0)) = _
  rw [e2, e1, e0]
  omega
theorem code3_le {B g a w g' a' w' : Int} (h : g * (B * B) + a * B + w ≤ g' * (B * B) + a' * B + w') (a0 : 0 ≤ a) (w0 : 0 ≤ w) (b1 : a' < B) (b2 : w' < B) (b3 : 0 ≤ a') : g < g' ∨ (g = g' ∧ a ≤ a') := by
  have hB : 0 < B := by omega
  have hP : 0 ≤ B * B := Int.mul_nonneg (by omega) (by omega)
  have aB : 0 ≤ a * B := Int.mul_nonneg a0 (by omega)
  have a'B : a' * B ≤ B * B - B := by
    have := Int.mul_le_mul_of_nonneg_right (show a' ≤ B - 1 by omega) (show 0 ≤ B by omega)
    rw [Int.sub_mul, Int.one_mul] at this
    exact this
  rcases Int.lt_trichotomy g g' with z | z | z
  · exact .inl z
  · refine .inr ⟨z, ?_⟩
    subst z
    refine Int.le_of_not_gt fun k => ?_
    have := Int.mul_le_mul_of_nonneg_right (show a' + 1 ≤ a by omega) (show 0 ≤ B by omega)
    rw [Int.add_mul, Int.one_mul] at this
    omega
  · have := Int.mul_le_mul_of_nonneg_right (show g' + 1 ≤ g by omega) hP
    rw [Int.add_mul, Int.one_mul] at this
    omega
theorem key_at {H : Hp} {v : V} {x : Pt} (h : Td H v (keyD x)) : ∃ t, v = .ref t ∧ H t = some (.tup [.int (x.g : Int), .int (x.a : Int), .int (x.w : Int)]) := by
  obtain ⟨a, vs, rfl, e, h⟩ := td_ref h
  obtain ⟨v1, r1, rfl, t1, h⟩ := td_c h
  obtain ⟨v2, r2, rfl, t2, h⟩ := td_c h
  obtain ⟨v3, r3, rfl, t3, h⟩ := td_c h
  rw [td_n h, td_int t1, td_int t2, td_int t3] at e
  exact ⟨a, rfl, e⟩
theorem big_of : ∀ p : Pth, ∃ B : Nat, ∀ x ∈ p, x.g < B ∧ x.a < B ∧ x.w < B
  | [] => ⟨0, fun x hx => by cases hx⟩
  | x :: r => by
    obtain ⟨B, h⟩ := big_of r
    refine ⟨B + x.g + x.a + x.w + 1, fun y hy => ?_⟩
    rcases List.mem_cons.mp hy with e | e
    · rw [e]; omega
    · have := h y e; omega
/-- the tuple of ints at t is one -/
theorem tupI_one {K : PySem.W.Frag} {H : Hp} {t : Addr} {xs : List Int} {ns : List Int} (e : H t = some (.tup (xs.map V.int))) : TupI K H (.ref t) xs := ⟨t, rfl, SqT.of e⟩
theorem r_sortBest {K : PySem.W.Frag} {H : Hp} {Q : VK} {a : Addr} {p : Pth} (h : LsAt H a (p.map keyD)) (nd : (p.map Pt.a).Nodup) (hp : p ≠ []) (hl : p.length ≤ 8)
    (q : ∀ c H' ys t, H c = none → H' c = some (.lst (.ref t :: ys)) → H' t = some (.tup [.int ((bestP p).g : Int), .int ((bestP p).a : Int), .int ((bestP p).w : Int)]) → Fr No H H' → Q (.ref c) H') : rSort3 K [.ref a] H Q := by
  obtain ⟨B, hB⟩ := big_of p
  obtain ⟨vs, e, av⟩ := h
  have hvl : vs.length = p.length := by rw [av.len, List.length_map]
  have back : ∀ v ∈ vs, ∃ x ∈ p, ∃ t, v = .ref t ∧ H t = some (.tup [.int (x.g : Int), .int (x.a : Int), .int (x.w : Int)]) := fun v hv => by
    obtain ⟨i, hi, ei⟩ := List.mem_iff_getElem.mp hv
    have hi2 : i < p.length := by omega
    obtain ⟨u, eu, tu⟩ := av.at (i := i) (d := keyD p[i]) (by rw [List.getElem?_map, List.getElem?_eq_getElem hi2]; rfl)
    rw [List.getElem?_eq_getElem hi, ei] at eu
    cases eu
    obtain ⟨t, h1, h2⟩ := key_at tu
    exact ⟨p[i], List.getElem_mem hi2, t, h1, h2⟩
  have forth : ∀ x ∈ p, ∃ t, V.ref t ∈ vs ∧ H t = some (.tup [.int (x.g : Int), .int (x.a : Int), .int (x.w : Int)]) := fun x hx => by
    obtain ⟨i, hi, ei⟩ := List.mem_iff_getElem.mp hx
    obtain ⟨u, eu, tu⟩ := av.at (i := i) (d := keyD x) (by rw [List.getElem?_map, List.getElem?_eq_getElem hi, ei]; rfl)
    obtain ⟨t, rfl, h2⟩ := key_at tu
    exact ⟨t, List.mem_of_getElem? eu, h2⟩
  refine ⟨(B : Int), a, vs, rfl, SqL.of e, by omega, fun v hv => ?_, fun ys c perm pw hc => ?_⟩
  · obtain ⟨x, hx, t, rfl, et⟩ := back v hv
    obtain ⟨b1, b2, b3⟩ := hB x hx
    refine ⟨[(x.g : Int), (x.a : Int), (x.w : Int)], tupI_one (xs := [(x.g : Int), (x.a : Int), (x.w : Int)]) (ns := []) et, rfl, fun z hz => ?_⟩
    simp only [List.mem_cons, List.not_mem_nil, or_false] at hz
    rcases hz with e | e | e <;> rw [e] <;> constructor <;> omega
  · cases ys with
    | nil =>
      have := perm.length_eq
      rw [hvl] at this
      exact absurd (List.eq_nil_of_length_eq_zero this.symm) hp
    | cons y0 ys =>
      obtain ⟨x0, hx0, t0, rfl, et0⟩ := back y0 (perm.subset List.mem_cons_self)
      have le : ∀ z ∈ p, leP x0.k z.k := fun z hz => by
        obtain ⟨t, ht, et⟩ := forth z hz
        rcases List.mem_cons.mp (perm.symm.subset ht) with e1 | e1
        · have e2 : t = t0 := V.ref.inj e1
          rw [e2, et0] at et
          have e3 := Option.some.inj et
          injection e3 with e4
          simp only [List.cons.injEq, V.int.injEq, and_true] at e4
          unfold leP Pt.k
          simp only
          omega
        · have k := (List.pairwise_cons.mp pw).1 _ e1 _ _ (tupI_one (xs := [(x0.g : Int), (x0.a : Int), (x0.w : Int)]) (ns := []) et0) (tupI_one (xs := [(z.g : Int), (z.a : Int), (z.w : Int)]) (ns := []) et)
          rw [code3, code3] at k
          obtain ⟨b1, b2, b3⟩ := hB z hz
          have r := code3_le k (show (0 : Int) ≤ (x0.a : Int) by omega) (show (0 : Int) ≤ (x0.w : Int) by omega) (show (z.a : Int) < (B : Int) by omega) (show (z.w : Int) < (B : Int) by omega) (show (0 : Int) ≤ (z.a : Int) by omega)
          exact r
      have eb := best_one nd hx0 le
      refine q c _ ys t0 hc upd_same ?_ (Fr.new hc)
      rw [eb]
      exact (Fr.new hc : Fr No H _).tup _ _ et0
theorem tell_cmp (r : Pth × Nat) : (tellD r).canLay0 = true ∧ (tellD r).depth ≤ 3 := by
  obtain ⟨h1, h2⟩ := path_cmp r.1
  unfold tellD
  refine ⟨by simp [PyData.canLay0, PyData.canLayAll0, h1], ?_⟩
  simp only [PyData.depth, PyData.depthAll]
  omega
theorem tells_cmp (rs : List (Pth × Nat)) : CmpAll (rs.map tellD) := CmpAll.of fun d hd => by
  obtain ⟨r, _, rfl⟩ := List.mem_map.mp hd
  exact ⟨(tell_cmp r).1, Nat.le_trans (tell_cmp r).2 (by decide)⟩
end AL

namespace AL
open PySem PySem.Spec PyProof.Rows L2
/-! # the law's hall: drawing deeds, holding halls together -/
/-- the deed's numbers are small -/
def Hd.Sm (n m r h : Nat) : Hd → Prop
  | .ask a l => ∃ x y : Nat, a = (x : Int) ∧ l = (y : Int) ∧ x < n ∧ y < m
  | .give a l => ∃ x y : Nat, a = (x : Int) ∧ l = (y : Int) ∧ x < n ∧ y < m
  | .again => True
  | .carry i => ∃ x : Nat, i = (x : Int) ∧ x < max 1 r
  | .lose i => ∃ x : Nat, i = (x : Int) ∧ x < max 1 r
  | .double i => ∃ x : Nat, i = (x : Int) ∧ x < max 1 r
  | .stop i => ∃ x : Nat, i = (x : Int) ∧ x < h
  | .rise i => ∃ x : Nat, i = (x : Int) ∧ x < h
abbrev Hl.Sm (M : Hl) (dd : Hd) : Prop := dd.Sm M.t.n M.t.m M.rd.length M.dn.length
abbrev sp_Lasks (K : PySem.W.Frag) : Sp := sp2 fun x y H Q _ => ∃ st sc ns B M, x = .ref st ∧ y = .ref B.d ∧ StAt K H st sc ns ∧ ScF K sc ns (Only1 st) ∧ HmAt H B M ∧ B.t.bad st ∧ ¬ B.has st ∧
  ∀ p (dd : Hd) H', (∃ a l, dd = .ask a l ∨ dd = .give a l) → M.Sm dd → H p = none → H' p = some (.tup dd.vs) → StAt K H' st sc ns → Fr (Only1 st) H H' → Q (.ref p) H'
abbrev sp_Lhdeed (K : PySem.W.Frag) : Sp := sp2 fun x y H Q _ => ∃ st sc ns B M, x = .ref st ∧ y = .ref B.d ∧ StAt K H st sc ns ∧ ScF K sc ns (Only1 st) ∧ HmAt H B M ∧ M.Ok ∧ M.Few ∧ B.t.bad st ∧ ¬ B.has st ∧
  ∀ p (dd : Hd) H', M.Sm dd → H p = none → H' p = some (.tup dd.vs) → StAt K H' st sc ns → Fr (Only1 st) H H' → Q (.ref p) H'
abbrev sp_Lis_hall (K : PySem.W.Frag) : Sp := sp2 fun x y H Q _ => ∃ A B M, x = .ref A.p ∧ y = .ref B.d ∧ HlAt K H A M ∧ HmAt H B M ∧ M.Ok ∧ M.Few ∧ ∀ H', Fr No H H' → Q (.bl true) H'
abbrev sp_Lsizes (K : PySem.W.Frag) : Sp := sp1 fun x H Q _ => ∃ st sc ns, x = .ref st ∧ StAt K H st sc ns ∧ ScF K sc ns (Only1 st) ∧
  ∀ p (n m h : Nat) H', HlOk (n : Int) (m : Int) (h : Int) → H p = none → H' p = some (.tup [.int (n : Int), .int (m : Int), .int (h : Int)]) → StAt K H' st sc ns → Fr (Only1 st) H H' → Q (.ref p) H'
/-! ### the data of letters -/
section
variable {H : Hp} {v : V}
theorem dd_pt {x : Pt} (h : Td H v x.d) : Dd H v x.d := by
  obtain ⟨a, rfl, e⟩ := pt_at h
  exact .tup e (by show 3 ≤ 2000; decide) (.cons (.int _) (.cons (.int _) (.cons (.int _) .nil)))
theorem dd_pts : ∀ {p : Pth} {vs : List V}, TdAll H vs (p.map Pt.d) → DdAll H vs (p.map Pt.d)
  | [], _, h => by cases h; exact .nil
  | x :: r, _, h => by
    cases h with
    | cons a b => exact .cons (dd_pt a) (dd_pts b)
theorem dd_path {p : Pth} (h : Td H v (pathD p)) (hl : p.length ≤ 2000) : Dd H v (pathD p) := by
  obtain ⟨a, vs, rfl, e, t⟩ := path_at h
  exact .tup e (by rw [t.len, List.length_map]; exact hl) (dd_pts t)
theorem dd_lt {T : Tb} {X : Lt} (W : T.Wf) (k : LOk T X) (h : Td H v X.d) : Dd H v X.d := by
  cases k with
  | @who p l hp hl hs =>
    obtain ⟨a, pv, rfl, e, tp⟩ := who_at h
    exact .tup e (by show 3 ≤ 2000; decide) (.cons (.str _) (.cons (dd_path tp (by have := hp.len W; omega)) (.cons (.int _) .nil)))
  | @is p b l k hp hb hl hs =>
    obtain ⟨a, pv, rfl, e, tp⟩ := is_at h
    exact .tup e (by show 5 ≤ 2000; decide) (.cons (.str _) (.cons (dd_path tp (by have := hp.len W; omega)) (.cons (.int _) (.cons (.int _) (.cons (.int _) .nil)))))
  | @still p i hp hi =>
    obtain ⟨a, pv, rfl, e, tp⟩ := still_at h
    exact .tup e (by show 3 ≤ 2000; decide) (.cons (.str _) (.cons (dd_path tp (by have := hp.len W; omega)) (.cons (.int _) .nil)))
  | @brk b w hb =>
    obtain ⟨a, rfl, e⟩ := brk_at h
    exact .tup e (by show 3 ≤ 2000; decide) (.cons (.str _) (.cons (.int _) (.cons (.int _) .nil)))
theorem dd_tell {r : Pth × Nat} (h : Td H v (tellD r)) (hl : r.1.length ≤ 2000) : Dd H v (tellD r) := by
  obtain ⟨a, pv, rfl, e, tp⟩ := tell_at h
  exact .tup e (by show 2 ≤ 2000; decide) (.cons (dd_path tp hl) (.cons (.int _) .nil))
theorem brok_at {r : Nat × Nat} (h : Td H v (brokD r)) : ∃ a, v = .ref a ∧ H a = some (.tup [.int (r.1 : Int), .int (r.2 : Int)]) := by
  obtain ⟨a, vs, rfl, e, h⟩ := td_ref h
  obtain ⟨v1, r1, rfl, t1, h⟩ := td_c h
  obtain ⟨v2, r2, rfl, t2, h⟩ := td_c h
  rw [td_n h, td_int t1, td_int t2] at e
  exact ⟨a, rfl, e⟩
theorem dd_brok {r : Nat × Nat} (h : Td H v (brokD r)) : Dd H v (brokD r) := by
  obtain ⟨a, rfl, e⟩ := brok_at h
  exact .tup e (by show 2 ≤ 2000; decide) (.cons (.int _) (.cons (.int _) .nil))
theorem dd_all {α : Type} {f : α → PyData} : ∀ {xs : List α} {vs : List V}, (∀ x ∈ xs, ∀ v, Td H v (f x) → Dd H v (f x)) → TdAll H vs (xs.map f) → DdAll H vs (xs.map f)
  | [], _, _, h => by cases h; exact .nil
  | x :: r, _, k, h => by
    cases h with
    | cons a b => exact .cons (k x List.mem_cons_self _ a) (dd_all (fun y hy => k y (List.mem_cons_of_mem _ hy)) b)
theorem dd_road {p : Addr} {M : Hl} (O : M.Ok) (hl : M.rd.length ≤ 2000) (h : LsAt H p (M.rd.map Lt.d)) : Dd H (.ref p) (.list (M.rd.map Lt.d)) := by
  obtain ⟨vs, e, t⟩ := h
  exact .lst e (by rw [t.len, List.length_map]; exact hl) (dd_all (fun x hx v => dd_lt O.t (O.rd x hx)) t)
theorem dd_tells {p : Addr} {M : Hl} (O : M.Ok) (hl : M.tl.length ≤ 2000) (h : LsAt H p (M.tl.map tellD)) : Dd H (.ref p) (.list (M.tl.map tellD)) := by
  obtain ⟨vs, e, t⟩ := h
  exact .lst e (by rw [t.len, List.length_map]; exact hl) (dd_all (fun x hx v h => dd_tell h (by have := O.tl x hx; omega)) t)
theorem dd_broks {p : Addr} {rs : List (Nat × Nat)} (hl : rs.length ≤ 2000) (h : LsAt H p (rs.map brokD)) : Dd H (.ref p) (.list (rs.map brokD)) := by
  obtain ⟨vs, e, t⟩ := h
  exact .lst e (by rw [t.len, List.length_map]; exact hl) (dd_all (fun x hx v h => dd_brok h) t)
end
theorem depth_all {α : Type} {f : α → PyData} {k : Nat} : ∀ {xs : List α}, (∀ x ∈ xs, (f x).depth ≤ k) → PyData.depthAll (xs.map f) ≤ k
  | [], _ => by simp [PyData.depthAll]
  | x :: r, h => by
    have h1 := h x List.mem_cons_self
    have h2 := depth_all (xs := r) (f := f) (k := k) fun y hy => h y (List.mem_cons_of_mem _ hy)
    simp only [List.map_cons, PyData.depthAll]
    omega
theorem lt_depth (X : Lt) : X.d.depth ≤ 3 := by
  have key : ∀ p : Pth, (pathD p).depth ≤ 2 := fun p => (path_cmp p).2
  cases X with
  | who p l => have := key p; simp only [Lt.d, PyData.depth, PyData.depthAll]; omega
  | is p a l h => have := key p; simp only [Lt.d, PyData.depth, PyData.depthAll]; omega
  | still p i => have := key p; simp only [Lt.d, PyData.depth, PyData.depthAll]; omega
  | brk a w => simp only [Lt.d, PyData.depth, PyData.depthAll]; omega
theorem brok_depth (r : Nat × Nat) : (brokD r).depth ≤ 1 := by
  simp only [brokD, PyData.depth, PyData.depthAll]; omega
theorem hall_depth (M : Hl) : PyData.depth (.list [.list (M.rd.map Lt.d), .list (M.tl.map tellD), .list (M.br.map brokD)]) < 8 := by
  have h1 := depth_all (f := Lt.d) (k := 3) (xs := M.rd) fun x _ => lt_depth x
  have h2 := depth_all (f := tellD) (k := 3) (xs := M.tl) fun x _ => (tell_cmp x).2
  have h3 := depth_all (f := brokD) (k := 1) (xs := M.br) fun x _ => brok_depth x
  simp only [PyData.depth, PyData.depthAll]
  omega
theorem r_notInO {K : PySem.W.Frag} {H : Hp} {Q : VK} {p : Addr} {o : Option Nat} {a : Nat} (e : H p = some (.lst [.non, .int (a : Int)])) (q : Q (.bl (decide (o ≠ none ∧ o ≠ some a))) H) : rIn K true (oV o) (.ref p) H Q := by
  refine ⟨p, _, rfl, .inl (SqL.of e), flat_o o, rfl, ?_⟩
  have e2 : (!inV (oV o) [.non, .int (a : Int)]) = decide (o ≠ none ∧ o ≠ some a) := by
    cases o with
    | none => simp [oV, inV, eqV]
    | some n =>
      by_cases h : n = a
      · subst h
        simp [oV, inV, eqV]
      · have h3 : ¬ (a : Int) = (n : Int) := by omega
        simp [oV, inV, eqV, h, h3]
  rw [if_pos rfl, e2]
  exact q
theorem max_one (b : Nat) : (if (b : Int) > 1 then (b : Int) else 1) = ((max 1 b : Nat) : Int) := by split <;> omega
/-! ### results -/
theorem hoV_dd {H : Hp} (r : Except Wd Ho) : Dd H (hoV r) (hoD r) := by
  cases r with
  | error w => exact .str _
  | ok o =>
    cases o with
    | b x => exact .bl x
    | o x => exact dd_o x
theorem hoD_depth (r : Except Wd Ho) : (hoD r).depth < 8 := by
  cases r with
  | error w => exact Nat.lt_of_le_of_lt (Nat.le_refl 0) (by decide)
  | ok o =>
    cases o with
    | b x => exact Nat.lt_of_le_of_lt (Nat.le_refl 0) (by decide)
    | o x => cases x <;> exact Nat.lt_of_le_of_lt (Nat.le_refl 0) (by decide)
namespace Hl
theorem deedR_same {M : Hl} {dd : Hd} {w : Wd} (h : (M.deedR dd).1 = .error w) : (M.deedR dd).2 = M := by
  cases dd with
  | ask a l =>
    have h : (M.askR a l).1 = .error w := h
    show (M.askR a l).2 = M
    unfold Hl.askR at h ⊢
    split at h
    · rfl
    · split at h
      · rename_i q; rw [if_pos q]
      · rename_i q
        rw [if_neg q]
        split at h
        · rfl
        · cases h
        · cases h
  | give a l =>
    have h : (M.giveR a l).1 = .error w := h
    show (M.giveR a l).2 = M
    unfold Hl.giveR at h ⊢
    split at h
    · rfl
    · split at h
      · rename_i q; rw [if_pos q]
      · rename_i q
        rw [if_neg q]
        split at h
        · rfl
        · cases h
  | again => cases h
  | carry i =>
    have h : (M.carryR i).1 = .error w := h
    show (M.carryR i).2 = M
    unfold Hl.carryR at h ⊢
    split at h
    · cases h
    · rename_i q; rw [if_neg q]
  | lose i =>
    have h : (M.loseR i).1 = .error w := h
    show (M.loseR i).2 = M
    unfold Hl.loseR at h ⊢
    split at h
    · cases h
    · rename_i q; rw [if_neg q]
  | double i =>
    have h : (M.doubleR i).1 = .error w := h
    show (M.doubleR i).2 = M
    unfold Hl.doubleR at h ⊢
    split at h
    · cases h
    · rename_i q; rw [if_neg q]
  | stop i =>
    have h : (M.stopR i).1 = .error w := h
    show (M.stopR i).2 = M
    unfold Hl.stopR at h ⊢
    split at h
    · rename_i q
      rw [if_pos q]
      split at h
      · rename_i q2; rw [if_pos q2]
      · cases h
    · rename_i q; rw [if_neg q]
  | rise i =>
    have h : (M.riseR i).1 = .error w := h
    show (M.riseR i).2 = M
    unfold Hl.riseR at h ⊢
    split at h
    · rename_i q
      rw [if_pos q]
      split at h
      · cases h
      · rename_i q2; rw [if_neg q2]
    · rename_i q; rw [if_neg q]
/-! ### how many letters, tellings, breakings -/
theorem upTo_len {M : Hl} : ∀ k : Nat, (M.upTo k).rd.length ≤ M.rd.length + k ∧ (M.upTo k).tl = M.tl ∧ (M.upTo k).br = M.br
  | 0 => ⟨Nat.le_refl _, rfl, rfl⟩
  | k + 1 => by
    obtain ⟨h1, h2, h3⟩ := upTo_len (M := M) k
    show (if M.t.wa k ≠ none ∧ M.isDown k = false then (M.upTo k).seek k else M.upTo k).rd.length ≤ _ ∧ (if M.t.wa k ≠ none ∧ M.isDown k = false then (M.upTo k).seek k else M.upTo k).tl = _ ∧ (if M.t.wa k ≠ none ∧ M.isDown k = false then (M.upTo k).seek k else M.upTo k).br = _
    split
    · unfold Hl.seek
      split
      · exact ⟨by omega, h2, h3⟩
      · refine ⟨?_, h2, h3⟩
        show ((M.upTo k).rd ++ [_]).length ≤ _
        rw [List.length_append]
        show _ + 1 ≤ _
        omega
    · exact ⟨by omega, h2, h3⟩
structure Le (M M' : Hl) (k : Nat) : Prop where
  rd : M'.rd.length ≤ M.rd.length + k
  tl : M'.tl.length ≤ M.tl.length + 1
  br : M'.br.length ≤ M.br.length + 1
theorem Le.refl {M : Hl} {k : Nat} : M.Le M k := ⟨Nat.le_add_right _ _, Nat.le_succ _, Nat.le_succ _⟩
theorem Le.lay {M : Hl} {x : Lt} : M.Le (M.lay x) 1 := ⟨by show (M.rd ++ [x]).length ≤ _; rw [List.length_append]; exact Nat.le_refl _, Nat.le_succ _, Nat.le_succ _⟩
theorem Le.seek {M : Hl} {a : Nat} : M.Le (M.seek a) 1 := by
  unfold Hl.seek
  split
  · exact Le.refl
  · exact Le.lay
theorem Le.read {M : Hl} (x : Lt) : M.Le (M.read x) 1 := by
  cases x with
  | who p l =>
    show M.Le (M.who p l) 1
    unfold Hl.who
    split
    · exact Le.refl
    · exact Le.lay
  | is p a l h =>
    show M.Le (M.come p a l h) 1
    unfold Hl.come
    split
    · exact Le.refl
    · split
      · exact Le.refl
      · split
        · split
          · exact Le.lay
          · exact Le.refl
        · split
          · exact Le.lay
          · exact Le.refl
  | still p i =>
    show M.Le (M.still p i) 1
    unfold Hl.still
    split
    · split
      · exact Le.lay
      · unfold Hl.tell
        split
        · exact Le.lay
        · have := (Le.lay (M := M) (x := .brk (bestP p).a (bestP p).w))
          refine ⟨this.rd, ?_, this.br⟩
          show (M.tl ++ [_]).length ≤ _
          rw [List.length_append]
          exact Nat.le_refl _
    · exact Le.refl
  | brk a w =>
    show M.Le (M.brk a w) 1
    unfold Hl.brk
    split
    · refine ⟨Nat.le_succ _, Nat.le_succ _, ?_⟩
      show (M.br ++ [_]).length ≤ _
      rw [List.length_append]
      exact Nat.le_refl _
    · exact Le.refl
theorem Le.carry {M : Hl} {i : Nat} (h : i < M.rd.length) : M.Le (M.carry i) 0 := by
  have hd : (M.drop i).rd.length + 1 = M.rd.length := by
    show (M.rd.eraseIdx i).length + 1 = _
    rw [List.length_eraseIdx, if_pos h]
    omega
  have d0 : M.Le (M.drop i) 0 := ⟨by omega, Nat.le_succ _, Nat.le_succ _⟩
  unfold Hl.carry
  split
  · exact Le.refl
  · split
    · exact d0
    · rename_i x _ _
      have k := Le.read (M := M.drop i) x
      refine ⟨by have := k.rd; omega, k.tl, k.br⟩
theorem Le.deedR {M : Hl} (hn : M.t.n ≤ 8) (dd : Hd) : M.Le (M.deedR dd).2 8 := by
  have up : ∀ {M' : Hl} {j : Nat}, M.Le M' j → j ≤ 8 → M.Le M' 8 := fun h hj => ⟨by have := h.rd; omega, h.tl, h.br⟩
  have dr : ∀ i, M.Le (M.drop i) 8 := fun i => ⟨by have := List.length_eraseIdx_le M.rd i; show (M.rd.eraseIdx i).length ≤ _; omega, Nat.le_succ _, Nat.le_succ _⟩
  cases dd with
  | ask a l =>
    show M.Le (M.askR a l).2 8
    unfold Hl.askR
    split
    · exact Le.refl
    · split
      · exact Le.refl
      · split
        · exact Le.refl
        · exact ⟨Nat.le_add_right _ _, Nat.le_succ _, Nat.le_succ _⟩
        · rename_i T _
          have k := Le.seek (M := { M with t := T }) (a := a.toNat)
          exact up (M' := ({ M with t := T } : Hl).seek a.toNat) (j := 1) ⟨k.rd, k.tl, k.br⟩ (by omega)
  | give a l =>
    show M.Le (M.giveR a l).2 8
    unfold Hl.giveR
    split
    · exact Le.refl
    · split
      · exact Le.refl
      · split
        · exact Le.refl
        · exact ⟨Nat.le_add_right _ _, Nat.le_succ _, Nat.le_succ _⟩
  | again =>
    show M.Le (M.upTo M.t.n) 8
    obtain ⟨h1, h2, h3⟩ := upTo_len (M := M) M.t.n
    exact ⟨by omega, by rw [h2]; omega, by rw [h3]; omega⟩
  | carry i =>
    show M.Le (M.carryR i).2 8
    unfold Hl.carryR
    split
    · rename_i q
      exact up (Le.carry (by have := q.1; have := q.2; omega)) (by omega)
    · exact Le.refl
  | lose i =>
    show M.Le (M.loseR i).2 8
    unfold Hl.loseR
    split
    · exact dr _
    · exact Le.refl
  | double i =>
    show M.Le (M.doubleR i).2 8
    unfold Hl.doubleR
    split
    · exact up Le.lay (by omega)
    · exact Le.refl
  | stop i =>
    show M.Le (M.stopR i).2 8
    unfold Hl.stopR Hl.set
    split
    · split
      · exact Le.refl
      · exact ⟨Nat.le_add_right _ _, Nat.le_succ _, Nat.le_succ _⟩
    · exact Le.refl
  | rise i =>
    show M.Le (M.riseR i).2 8
    unfold Hl.riseR Hl.set
    split
    · split
      · exact ⟨Nat.le_add_right _ _, Nat.le_succ _, Nat.le_succ _⟩
      · exact Le.refl
    · exact Le.refl
end Hl
end AL

namespace AL
open PySem PySem.Spec PyProof.Rows L2
/-! # the hall laws' loop: the hall, the law's own, the state of drawing -/
structure HwS (K : PySem.W.Frag) (A : HlA) (B : HmA) (st sc : Addr) (ns : List Int) : Prop where
  ad : ∀ b, A.has b → ¬ B.has b
  ab : ∀ b, A.has b → B.t.bad b
  sb : B.t.bad st
  sd : ¬ B.has st
  sa : ¬ A.has st
  ob : ∀ b, B.has b → B.t.bad b
  bo : ∀ b, B.t.bad b → B.has b ∨ A.has b ∨ b = st
  fa : ScF K sc ns A.foot
  fd : ScF K sc ns B.foot
  fs : ScF K sc ns (Only1 st)
structure Hw (K : PySem.W.Frag) (A : HlA) (B : HmA) (st sc : Addr) (ns : List Int) (Ts : List (Addr × Str)) (M N : Hl) (H : Hp) : Prop where
  hl : HlAt K H A M
  hm : HmAt H B N
  st : StAt K H st sc ns
  ts : LamX.Tabs Ts H
section
variable {K : PySem.W.Frag} {A : HlA} {B : HmA} {st sc : Addr} {ns : List Int} {Ts : List (Addr × Str)} {M M' N N' : Hl} {H H' : Hp}
theorem Hw.fr0 (h : Hw K A B st sc ns Ts M N H) (f : Fr No H H') : Hw K A B st sc ns Ts M N H' := ⟨h.hl.fr0 f, h.hm.fr0 f, h.st.fr0 f, tabs_fr h.ts f old_no⟩
theorem Hw.frS (s : HwS K A B st sc ns) (h : Hw K A B st sc ns Ts M N H) (f : Fr (Only1 st) H H') (hs : StAt K H' st sc ns) : Hw K A B st sc ns Ts M N H' := by
  obtain ⟨xs, e⟩ := h.st.lst
  exact ⟨h.hl.fr f fun b hb z => s.sa (z ▸ hb), h.hm.fr f (fun b hb => hb ▸ s.sb) (fun b hb z => s.sd (z ▸ hb)), hs, tabs_fr h.ts f (old_one e)⟩
theorem Hw.bad (s : HwS K A B st sc ns) (h : Hw K A B st sc ns Ts M N H) : ∀ b, B.t.bad b → ∃ o, H b = some o ∧ ∀ ps, o ≠ .tbl ps := fun b hb => by
  rcases s.bo b hb with z | z | z
  · obtain ⟨o, e, _, n⟩ := h.hm.old z
    exact ⟨o, e, n⟩
  · obtain ⟨o, e, _, n⟩ := h.hl.old z
    exact ⟨o, e, n⟩
  · rw [z]
    obtain ⟨xs, e⟩ := h.st.lst
    exact ⟨_, e, fun xs z => by cases z⟩
theorem Hw.ext (s : HwS K A B st sc ns) (h : Hw K A B st sc ns Ts M N H) (e : LamX.ExtN H H') (t : LamX.Tabs Ts H') : Hw K A B st sc ns Ts M N H' := ⟨h.hl.ext e, h.hm.ext e (h.bad s), h.st.ext e, t⟩
/-- the law's hall is another one -/
theorem Hw.due (s : HwS K A B st sc ns) (h : Hw K A B st sc ns Ts M N H) (f : Fr B.foot H H') (hm : HmAt H' B N') : Hw K A B st sc ns Ts M N' H' :=
  ⟨h.hl.fr f (fun b hb z => s.ad b hb (HmA.has_foot z)), hm, h.st.fr f (fun z => s.sd (HmA.has_foot z)) s.fd, tabs_fr h.ts f (hm_old_foot h.hm)⟩
/-- the program's hall is another one -/
theorem Hw.done (s : HwS K A B st sc ns) (h : Hw K A B st sc ns Ts M N H) (f : Fr A.foot H H') (hl : HlAt K H' A M') : Hw K A B st sc ns Ts M' N H' :=
  ⟨hl, h.hm.fr f (fun b hb => s.ab _ (HlA.has_foot hb)) (fun b hb z => s.ad b (HlA.has_foot z) hb), h.st.fr f (fun z => s.sa (HlA.has_foot z)) s.fa, tabs_fr h.ts f (hl_old_foot h.hl)⟩
end
theorem r_kindHDoes {K : PySem.W.Frag} {A : HlA} {M : Hl} {p : Addr} {dd : Hd} {i j : Nat} {σ : L2.St} {H : Hp} {Q : VK} (hi : σ[i]? = some (some (.ref A.p))) (hj : σ[j]? = some (some (.ref p))) (hA : HlAt K H A M) (hO : M.Ok) (hF : M.Few) (hp : H p = some (.tup dd.vs))
    (q : ∀ H', HlAt K H' A (M.deedR dd).2 → Fr A.foot H H' → Q (hoV (M.deedR dd).1) H') : TKind K (fun E H' Q' => tCall (sp_Lhdoes K) [] E (tCons (tVar i) (tCons (tVar j) tNil)) σ H' Q') H Q := by
  refine ⟨_, hi, _, hj, ?_⟩
  refine ⟨_, _, rfl, A, M, p, dd, rfl, rfl, hA, hO, hF, hp, fun w ew => ?_, fun o H' eo hA' f => ?_⟩
  · refine ⟨rfl, w, rfl, fun H2 f => ?_⟩
    have k := q H2 (by rw [Hl.deedR_same ew]; exact hA.fr0 f) f.up
    rw [ew] at k
    exact k
  · have k := q H' hA' f
    rw [eo] at k
    exact k
/-! ### law k07 -/
abbrev sp_Lfar (K : PySem.W.Frag) : Sp := sp2 fun x y H Q _ => ∃ st sc ns, ∃ m : Int, x = .ref st ∧ y = .int m ∧ StAt K H st sc ns ∧ ScF K sc ns (Only1 st) ∧ ∀ (r : Int) H', (r < 0 ∨ m < r) → StAt K H' st sc ns → Fr (Only1 st) H H' → Q (.int r) H'
abbrev sp_Lodd (K : PySem.W.Frag) : Sp := sp2 fun x y H Q _ => ∃ st sc ns B M, x = .ref st ∧ y = .ref B.d ∧ StAt K H st sc ns ∧ ScF K sc ns (Only1 st) ∧ HmAt H B M ∧ M.Ok ∧ M.Few ∧ B.t.bad st ∧ ¬ B.has st ∧
  ∀ p (dd : Hd) H', H' p = some (.tup dd.vs) → StAt K H' st sc ns → Fr (Only1 st) H H' → Q (.ref p) H'
/-- what a told list is, and may become -/
theorem Hl.Few.of {M : Hl} {a : Nat} (h : M.rd.length ≤ a ∧ M.tl.length ≤ a ∧ M.br.length ≤ a) (ha : a ≤ 1980) : M.Few := ⟨by omega, by omega, by omega⟩
end AL

namespace AL
open PySem PySem.Spec PyProof.Rows L2
/-! # lambdas that outlive their maker: what is known of them and of the cells -/
/-- a cell that holds u -/
def CellO (c : Addr) (u : Value) : HO := .ext fun hp => hp.IsCell c (some u)
/-- a function object -/
def LamO (f : Addr) (ob : Obj) : HO := .ext fun hp => hp.get? f = some ob
section
variable {P : Program} {w : World} {H H' : Hp} {hp hp' : Heap} {c f : Addr} {u : Value} {ob : Obj} {cs : List Addr}
theorem cellO_ok (e : hp.IsCell c (some u)) : ObjOk P w H hp c (CellO c u) :=
  ⟨e, ⟨e.choose, e.choose_spec.1⟩, fun g1 g2 q st => ⟨q.choose, st _ q.choose_spec.1, q.choose_spec.2⟩⟩
theorem lamO_ok (e : hp.get? f = some ob) : ObjOk P w H hp f (LamO f ob) := ⟨e, ⟨ob, e⟩, fun g1 g2 q st => st _ q⟩
/-- the view without the things at cs; the view with them again -/
def less (cs : List Addr) (H : Hp) : Hp := fun b => if b ∈ cs then none else H b
def back (cs : List Addr) (H H' : Hp) : Hp := fun b => if b ∈ cs then H b else H' b
/-- at cs stand things known by themselves -/
def Own (cs : List Addr) (H : Hp) : Prop := ∀ c ∈ cs, ∃ φ, H c = some (.ext φ)
theorem less_in (h : c ∈ cs) : less cs H c = none := if_pos h
theorem less_out (h : c ∉ cs) : less cs H c = H c := if_neg h
theorem back_in (h : c ∈ cs) : back cs H H' c = H c := if_pos h
theorem back_out (h : c ∉ cs) : back cs H H' c = H' c := if_neg h
theorem less_some {o : HO} (n : less cs H c = some o) : c ∉ cs ∧ H c = some o := by
  by_cases z : c ∈ cs
  · rw [less_in z] at n; cases n
  · rw [less_out z] at n; exact ⟨z, n⟩
theorem Own.not {o : HO} (O : Own cs H) (e : H c = some o) (n : ∀ φ, o ≠ .ext φ) : c ∉ cs := fun z => by
  obtain ⟨φ, q⟩ := O c z
  rw [e] at q
  exact n φ (Option.some.inj q)
theorem less_hok (O : Own cs H) (k : HOk P w H hp) : HOk P w (less cs H) hp := fun b o e => by
  obtain ⟨_, e1⟩ := less_some e
  refine (k b o e1).stay (fun _ _ _ q => q) (fun d q => ?_) (fun d xs q => ?_)
  · rw [less_out (O.not q (fun φ z => by cases z))]; exact q
  · rw [less_out (O.not q (fun φ z => by cases z))]; exact q
/-- a call seen without the things at cs, seen with them -/
theorem back_end {fs : List Addr} (O : Own cs H) (k : HOk P w H hp) (nf : ∀ c ∈ cs, c ∉ fs) (un : Un fs [] (less cs H) H' hp hp') (k' : HOk P w H' hp') : Un fs [] H (back cs H H') hp hp' ∧ HOk P w (back cs H H') hp' := by
  have nx : ∀ b : Addr, b ∉ ([] : List Addr) := fun b z => by cases z
  have there : ∀ c ∈ cs, ∃ o, hp.get? c = some o := fun c hc => by
    obtain ⟨φ, e⟩ := O c hc
    exact (show _ ∧ (∃ o, hp.get? c = some o) ∧ _ from k c _ e).2.1
  have gone : ∀ c ∈ cs, H' c = none := fun c hc => by
    obtain ⟨o, e⟩ := there c hc
    exact un.free c o e (less_in hc) (nx c)
  have none_ : ∀ {b}, H b = none → b ∉ cs ∧ less cs H b = none := fun {b} n => by
    have z : b ∉ cs := fun z => by
      obtain ⟨φ, e⟩ := O b z
      rw [n] at e; cases e
    exact ⟨z, by rw [less_out z]; exact n⟩
  have some_ : ∀ {b o}, H' b = some o → b ∉ cs := fun {b o} e z => by rw [gone b z] at e; cases e
  refine ⟨⟨fun b o e n h1 h2 => un.keep b o e (none_ n).2 h1 h2, fun b o e n h1 h2 => un.slot b o e (none_ n).2 h1 h2, fun b o e n h2 => ?_, un.there, fun b xs e => ?_, fun b o v e => ?_, fun b ps e => ?_⟩, fun b o e => ?_⟩
  · rw [back_out (none_ n).1]; exact un.free b o e (none_ n).2 h2
  · have z := O.not e (fun φ q => by cases q)
    have e2 := un.tups b xs (by rw [less_out z]; exact e)
    rw [back_out z]; exact e2
  · have z := O.not e (fun φ q => by cases q)
    have e2 := un.frzs b o v (by rw [less_out z]; exact e)
    rw [back_out z]; exact e2
  · have z := O.not e (fun φ q => by cases q)
    obtain ⟨more, e2⟩ := un.tbls b ps (by rw [less_out z]; exact e)
    exact ⟨more, by rw [back_out z]; exact e2⟩
  · by_cases z : b ∈ cs
    · rw [back_in z] at e
      obtain ⟨φ, q⟩ := O b z
      rw [e] at q
      obtain rfl := Option.some.inj q
      obtain ⟨p1, ⟨ob, p2⟩, p3⟩ := (show φ hp ∧ (∃ o, hp.get? b = some o) ∧ ∀ g1 g2 : Heap, φ g1 → (∀ o, g1.get? b = some o → g2.get? b = some o) → φ g2 from k b _ e)
      have kp : ∀ o, hp.get? b = some o → hp'.get? b = some o := fun o e => un.keep b o e (less_in z) (nf b z) (nx b)
      exact ⟨p3 hp hp' p1 kp, ⟨ob, kp ob p2⟩, p3⟩
    · rw [back_out z] at e
      refine (k' b o e).stay (fun _ _ _ q => q) (fun d q => ?_) (fun d xs q => ?_)
      · rw [back_out (some_ q)]; exact q
      · rw [back_out (some_ q)]; exact q
theorem ce_back {outer : List Env} {s s' : Shared} {Q : VK} {v : Value} (O : Own cs H) (k : HOk P w H s.heap) (nf : ∀ c ∈ cs, c ∉ frs outer) (h : CE outer P w (less cs H) s (fun x H' => Q x (back cs H H')) v s') : CE outer P w H s Q v s' := by
  obtain ⟨x, H', a1, a2, un, k', r, q⟩ := h
  obtain ⟨un2, k2⟩ := back_end O k nf un k'
  exact ⟨x, back cs H H', a1, a2, un2, k2, r, q⟩
theorem env0_less {K : PySem.W.Frag} {mg : Str → Option Value} {base : Heap} {A : Around} {outer : List Env} {s : Shared} (O : Own cs H) (e : Env0 P w K mg base A outer s H) : Env0 P w K mg base A outer s (less cs H) :=
  ⟨e.frames, e.mod, fun b o h => ⟨(e.bs b o h).1, by
    by_cases z : b ∈ cs
    · exact less_in z
    · rw [less_out z]; exact (e.bs b o h).2⟩, e.bsz, e.funs, fun b h => by
    by_cases z : b ∈ cs
    · exact less_in z
    · rw [less_out z]; exact e.frf b h, less_hok O e.hok, e.bare⟩
/-- one thing more is known, of an object that is new since -/
theorem track {fs : List Addr} {h0 : Heap} {H0 : Hp} {o : HO} (un : Un fs [] H0 H h0 hp) (k : HOk P w H hp) (n : H c = none) (new : h0.objs.size ≤ c) (no : ∀ a, o ≠ .own a) (nt : ∀ xs, o ≠ .tup xs) (ok : ObjOk P w (upd H c o) hp c o) : Un fs [] H0 (upd H c o) h0 hp ∧ HOk P w (upd H c o) hp := by
  refine ⟨⟨un.keep, un.slot, fun b ob e m h2 => ?_, un.there, fun b xs e => ?_, fun b ob v e => ?_, fun b ps e => ?_⟩, fun b ob e => ?_⟩
  · rw [upd_ne (Nat.ne_of_lt (Nat.lt_of_lt_of_le (Heap.lt_size e) new))]; exact un.free b ob e m h2
  · rw [upd_ne (ne_of_none (un.tups b xs e) n)]; exact un.tups b xs e
  · rw [upd_ne (ne_of_none (un.frzs b ob v e) n)]; exact un.frzs b ob v e
  · obtain ⟨more, e2⟩ := un.tbls b ps e
    exact ⟨more, by rw [upd_ne (ne_of_none e2 n)]; exact e2⟩
  · by_cases z : b = c
    · subst z; rw [upd_same] at e; cases e; exact ok
    · rw [upd_ne z] at e
      refine (k b ob e).stay (fun _ _ _ q => q) (fun d q => ?_) (fun d xs q => ?_)
      · rw [upd_ne (ne_of_none q n)]; exact q
      · rw [upd_ne (ne_of_none q n)]; exact q
end
end AL

namespace AL
open PySem PySem.Spec PyProof.Rows L2
open LamX (CodeO TabS Tabs ExtN TabB LamS lamCx lamEnv inv_table among_app codeO_ne)
/-! # a lambda as a value -/
/-- the object of a lambda without parameters -/
abbrev lamOb (q : Str) (params : Arguments) (body : Expr) (scope : Scope) (cl : List (Str × Addr)) (pm : Value) (c' : Addr) (ctv : Value) : Obj := PySem.W.kla_obj "<lambda>" q params body scope cl pm c' ctv
def LamAt (q : Str) (params : Arguments) (body : Expr) (scope : Scope) (cl : List (Str × Addr)) (f : Addr) (H : Hp) : Prop := ∃ c' pm ctv, H f = some (LamO f (lamOb q params body scope cl pm c' ctv)) ∧ H c' = some (CodeO c' q)
theorem lamO_tbl {f : Addr} {ob : Obj} (ps : Array Value) : LamO f ob ≠ .tbl ps := fun z => by
  unfold LamO at z
  cases z
def tMkLam (T : List (Addr × Str)) (q : Str) (params : Arguments) (body : Expr) (scope : Scope) (cl : List (Str × Addr)) : TE := fun _ H Q => Tabs T H ∧ ∀ f H2, ExtN H H2 → (∀ b, H2 b = none → H b = none) → Tabs T H2 → H f = none → LamAt q params body scope cl f H2 → Q (.ref f) H2
section
variable {X : Cx} {pins : List (Addr × Obj)} {σ : L2.St} {H : Hp} {s : Shared}
theorem pe_mklam {T : List (Addr × Str)} {c P : Addr} {params : Arguments} {body : Expr} {scope : Scope} {pos : Pos} (TB : TabB X.base X.mg c P) (hcode : X.env.code = .ref c) (hm : (P, X.env.qual ++ "<lambda>") ∈ T)
    (hu : ∀ p ∈ T, p.1 = P → p.2 = X.env.qual ++ "<lambda>") (L : LamS X.env.scope scope) (hdef : defaultsOf params X.env = ([], [])) :
    PE X (.Lambda params body scope pos) (tMkLam T (X.env.qual ++ "<lambda>") params body scope (cloFrom X.env.cells scope.names [])) := by
  refine ⟨fun pins s σ H Q I hh => ?_⟩
  obtain ⟨tb0, go⟩ := hh
  obtain ⟨arr, at0, tri, told⟩ := tb0 _ hm
  have raw : s.heap.get? P = some { cls := .none, data := .fields arr } := I.hok P _ at0
  have bld : s.heap.BuiltinsAt X.mg P := TB.bm.keeps I.bk
  have clo := closure_ok (env := X.env) (scope := scope) (L.has I.ok)
  refine PySem.W.kla_eval hdef ?_
  cases look : codeAmong pos arr.toList with
  | none =>
    refine PySem.W.kla_makeFunction (mg := X.mg) (c := c) (P := P) (ps := arr) clo I.ok.glob (I.mod.glob.keeps I.bk) hcode (TB.code.keeps I.bk) raw tri look TB.gP bld fun c' ctv g tk grown old_ new_ rec_ tab_ => ?_
    obtain ⟨c2, oc, vs, t, ec, oc1, oc2, oc3⟩ := rec_
    cases ec
    have I1 := inv_table (q := X.env.qual ++ "<lambda>") (t' := tk) (more := #[rawInt pos.line, rawInt pos.col, .ref c']) (h' := g) I at0 (fun b o hb e => grown b o hb e) tab_ old_ ⟨oc, vs, t, oc1, oc2, oc3⟩
    have cNone : H c' = none := I.hok.fresh old_
    have big : s.heap.objs.size ≤ g.objs.size := Nat.le_trans old_ (Nat.le_of_lt new_)
    have fNone : H g.objs.size = none := I.hok.fresh big
    have f1 : g.objs.size ≠ c' := Nat.ne_of_gt new_
    generalize eob : lamOb (X.env.qual ++ "<lambda>") params body scope (cloFrom X.env.cells scope.names []) ((X.mg "__name__").getD .none) c' ctv = ob at *
    have live : ob.isFreed = false := by rw [← eob]; rfl
    have I2 := I1.laid (a := g.objs.size) (o := LamO g.objs.size ob) (h' := g.push ob) (t' := tk) (fun b u e => Heap.get?_push_of_some _ e) (Nat.le_refl _) (lamO_ok (Heap.get?_push_size _ live))
    have atC : upd (upd (upd H P (.tbl (arr ++ #[rawInt pos.line, rawInt pos.col, .ref c']))) c' (CodeO c' (X.env.qual ++ "<lambda>"))) g.objs.size (LamO g.objs.size ob) c' = some (CodeO c' (X.env.qual ++ "<lambda>")) := by
      rw [upd_ne f1.symm, upd_same]
    have keep : ExtN H (upd (upd (upd H P (.tbl (arr ++ #[rawInt pos.line, rawInt pos.col, .ref c']))) c' (CodeO c' (X.env.qual ++ "<lambda>"))) g.objs.size (LamO g.objs.size ob)) := fun b o e n => by
      rw [upd_ne (ne_of_none e fNone), upd_ne (ne_of_none e cNone), upd_ne (fun z => n arr (Option.some.inj (e.symm.trans (by rw [z]; exact at0))))]
      exact e
    have I3 : Inv X pins σ (upd (upd (upd H P (.tbl (arr ++ #[rawInt pos.line, rawInt pos.col, .ref c']))) c' (CodeO c' (X.env.qual ++ "<lambda>"))) g.objs.size (LamO g.objs.size ob)) { s with heap := g.push (lamOb (X.env.qual ++ "<lambda>") params body scope (cloFrom X.env.cells scope.names []) ((X.mg "__name__").getD .none) c' ctv), toks := tk } := by
      rw [eob]
      exact I2
    refine ⟨.ref g.objs.size, _, I3, rfl, go _ _ keep (fun b e => ?_) (fun p hp => ?_) fNone ⟨c', _, _, by rw [upd_same, ← eob], atC⟩⟩
    · by_cases z1 : b = g.objs.size
      · rw [z1]; exact fNone
      · rw [upd_ne z1] at e
        by_cases z2 : b = c'
        · rw [z2]; exact cNone
        · rw [upd_ne z2] at e
          by_cases z3 : b = P
          · rw [z3, upd_same] at e; cases e
          · rw [upd_ne z3] at e; exact e
    · by_cases hb : p.1 = P
      · have eT : (arr ++ #[rawInt pos.line, rawInt pos.col, .ref c']).toList = arr.toList ++ [rawInt pos.line, rawInt pos.col, .ref c'] := by simp
        rw [hu p hp hb, hb]
        refine ⟨arr ++ #[rawInt pos.line, rawInt pos.col, .ref c'], by rw [upd_ne (ne_of_none at0 fNone), upd_ne (ne_of_none at0 cNone), upd_same], by rw [eT]; exact PySem.TriplesOk_snoc _ _ _ _ tri, fun p' cv hcv => ?_⟩
        rw [eT] at hcv
        rcases among_app _ tri hcv with z | z
        · obtain ⟨c0, e1, e2⟩ := told p' cv z
          exact ⟨c0, e1, keep _ _ e2 codeO_ne⟩
        · exact ⟨c', z, atC⟩
      · obtain ⟨ar2, b1, b2, b3⟩ := tb0 p hp
        refine ⟨ar2, by rw [upd_ne (ne_of_none b1 fNone), upd_ne (ne_of_none b1 cNone), upd_ne hb]; exact b1, b2, fun p' cv hcv => ?_⟩
        obtain ⟨c0, e1, e2⟩ := b3 p' cv hcv
        exact ⟨c0, e1, keep _ _ e2 codeO_ne⟩
  | some cv =>
    obtain ⟨c', ecv, known⟩ := told pos cv look
    subst ecv
    refine PySem.W.kla_makeFunctionHit (mg := X.mg) (c := c) (P := P) (ps := arr) clo I.ok.glob (I.mod.glob.keeps I.bk) hcode (TB.code.keeps I.bk) raw tri look bld fun ctv g tk grown big => ?_
    have I1 : Inv X pins σ H { s with heap := g, toks := tk } := I.kept grown
    have fNone : H g.objs.size = none := I.hok.fresh big
    generalize eob : lamOb (X.env.qual ++ "<lambda>") params body scope (cloFrom X.env.cells scope.names []) ((X.mg "__name__").getD .none) c' ctv = ob at *
    have live : ob.isFreed = false := by rw [← eob]; rfl
    have I2 := I1.laid (a := g.objs.size) (o := LamO g.objs.size ob) (h' := g.push ob) (t' := tk) (fun b u e => Heap.get?_push_of_some _ e) (Nat.le_refl _) (lamO_ok (Heap.get?_push_size _ live))
    have keep : ∀ b o, H b = some o → upd H g.objs.size (LamO g.objs.size ob) b = some o := fun b o e => by rw [upd_ne (ne_of_none e fNone)]; exact e
    have I3 : Inv X pins σ (upd H g.objs.size (LamO g.objs.size ob)) { s with heap := g.push { cls := .type "function", data := .func (PySem.W.kla_fn "<lambda>" (X.env.qual ++ "<lambda>") params body scope (cloFrom X.env.cells scope.names []) ((X.mg "__name__").getD .none) (.ref c') ctv) }, toks := tk } := by
      rw [← eob] at I2 ⊢
      exact I2
    refine ⟨.ref g.objs.size, _, I3, rfl, go _ _ (fun b o e _ => keep b o e) (fun b e => ?_) (tb0.ext keep) fNone ⟨c', _, _, by rw [upd_same, ← eob], keep _ _ known⟩⟩
    by_cases z1 : b = g.objs.size
    · rw [z1]; exact fNone
    · rw [upd_ne z1] at e; exact e
end
end AL

namespace AL
open PySem PySem.Spec PyProof.Rows L2
open LamX (CodeO TabS Tabs ExtN TabB LamS lamCx lamEnv GivesTo run_ofS)
/-! # a stored lambda is called -/
/-- what the closure needs of the heap: its cells stand, apart, each with its value -/
structure CellsUp (Y : Cx) (σ : L2.St) (H : Hp) (s : Shared) : Prop where
  inj : ∀ x y c, Y.env.cells.lookup x = some c → Y.env.cells.lookup y = some c → x = y
  cel : ∀ y c, Y.env.cells.lookup y = some c → (∃ v, s.heap.IsCell c v) ∧ H c = none ∧ c ∉ frs Y.stack
  val : ∀ (i : Nat) (y : Str) (v : V), Y.N[i]? = some y → σ[i]? = some (some v) → ∃ u c, RelV v u ∧ Y.env.cells.lookup y = some c ∧ s.heap.IsCell c (some u)
  len : σ.length = Y.N.length
section
variable {X : Cx} {σ : L2.St} {H HZ : Hp} {s s1 : Shared}
theorem clo_back {cells : List (Str × Addr)} {names : List (Str × NameKind)} {y : Str} {c : Addr} (has : ∀ z ∈ names, z.2 = .free → ∃ c, cells.lookup z.1 = some c) (e : (cloFrom cells names []).lookup y = some c) : cells.lookup y = some c := by
  rcases cloFrom_mem (PySem.mem_of_lookup e) with z | ⟨m, v⟩
  · cases z
  · obtain ⟨d, hd⟩ := has _ m rfl
    have hd' : cells.lookup y = some d := hd
    rw [hd'] at v
    rw [hd', show c = d from v]
theorem lam_begin {A : Around} {outer : List Env} {E : XK} {scope : Scope} {f c' : Addr} {g : Heap} {tk : Nat} (L : LamS X.env.scope scope) (has : ∀ y ∈ scope.names, y.2 = .free → ∃ c, X.env.cells.lookup y.1 = some c) (Kp : CellsUp X σ HZ s1)
    (b0 : Env0 X.prog X.w X.K X.mg X.base A outer s1 HZ) (calm : A.handled = none) (fresh : g.Ns s1.heap.objs.size fun y => ([] : List (Str × Value)).reverse.lookup y) (grown : ∀ b o, s1.heap.get? b = some o → g.get? b = some o) :
    Inv (lamCx X A outer s1 HZ E scope f c') [] σ HZ { s1 with heap := g, toks := tk } := by
  have up : ∀ {y c}, (cloFrom X.env.cells scope.names []).lookup y = some c → X.env.cells.lookup y = some c := fun e => clo_back has e
  have stand : ∀ {c v}, s1.heap.IsCell c v → g.IsCell c v := fun {c v} ⟨o, e1, e2⟩ => ⟨o, grown _ _ e1, e2⟩
  have inClo : ∀ {y}, scope.names.lookup y = some .free → ∃ c, (cloFrom X.env.cells scope.names []).lookup y = some c := fun {y} e => mem_lookup (cloFrom_has (cells := X.env.cells) (acc := []) (PySem.mem_of_lookup e : (y, NameKind.free) ∈ scope.names))
  have notOwn : ∀ {y}, scope.names.lookup y ≠ some .local ∧ scope.names.lookup y ≠ some .cell := fun {y} => ⟨fun e => (L.own _ (PySem.mem_of_lookup e)).1 rfl, fun e => (L.own _ (PySem.mem_of_lookup e)).2 rfl⟩
  constructor
  · exact {
      mod := b0.mod, kind := L.kind, glob := rfl, blt := rfl, above := Nat.le_refl _
      inj := fun y z c e1 e2 => Kp.inj y z c (up e1) (up e2)
      has := fun y hy => by
        rcases (show scope.names.lookup y = some .cell ∨ scope.names.lookup y = some .free from hy) with q | q
        · exact absurd q notOwn.2
        · exact inClo q
      cab := fun y c z _ => absurd (show false = true from z) Bool.false_ne_true
      hd := fun _ => calm
      frames := Around.frames_deeper b0.frames
      stk := .inr ⟨rfl, rfl⟩
      exf := fun b z => absurd (show b ∈ ([] : List Addr) from z) (by simp)
      bs := b0.bs, bsz := b0.bsz
      noex := fun b _ _ z => absurd (show b ∈ ([] : List Addr) from z) (by simp)
      exfs := fun b z => absurd (show b ∈ ([] : List Addr) from z) (by simp)
      funs := b0.funs, frf := b0.frf }
  · rfl
  · exact b0.bare
  · exact Un.kept grown
  · refine ⟨_, fresh, fun i y v e1 e2 e3 => ?_⟩
    have e3 : Vis scope y := e3
    rcases e3 with q | q | q
    · exact absurd q notOwn.1
    · exact absurd q notOwn.2
    · obtain ⟨u, c, r, lk, ic⟩ := Kp.val i y v e1 e2
      obtain ⟨c2, h2⟩ := inClo q
      have := up h2
      rw [lk] at this
      cases this
      exact ⟨u, r, .inr ⟨.inr q, c, h2, stand ic⟩⟩
  · intro y c e
    obtain ⟨⟨v, z⟩, _⟩ := Kp.cel y c (up e)
    exact ⟨v, stand z⟩
  · exact b0.hok.fresh (Nat.le_refl _)
  · intro y c e
    exact (Kp.cel y c (up e)).2.1
  · intro q hq
    exact absurd (show q ∈ ([] : List (Addr × Obj)) ++ [] from hq) (by simp)
  · exact b0.hok.kept grown
  · exact Kp.len
/-- x(), x the stored lambda f -/
theorem pe_stored {Ng : List Str} {qg : Str} {sg : Scope} {g f c' : Addr} {cdg pm ctv : Value} {params : Arguments} {body : Expr} {scope : Scope} {k i : Nat} {a : Str} {pn : List (Addr × Obj)} {xe : Value → Shared → Prop} {W : WX} {E : XK} {tb : TE} {p1 p2 : Pos}
    (L : LamS X.env.scope scope) (has : ∀ y ∈ scope.names, y.2 = .free → ∃ c, X.env.cells.lookup y.1 = some c) (Kp : CellsUp X σ H s)
    (ob : s.heap.get? f = some (lamOb (X.env.qual ++ "<lambda>") params body scope (cloFrom X.env.cells scope.names []) pm c' ctv)) (fn : H f = none) (fr : f ∉ frs X.stack)
    (bind : bindArgs (PySem.W.kla_fn "<lambda>" (X.env.qual ++ "<lambda>") params body scope (cloFrom X.env.cells scope.names []) pm (.ref c') ctv) ⟨[], []⟩ = pure [])
    (tk : Takes ((cxOf C8.CX0 X.prog X.w X.K X.mg X.base Ng qg sg g cdg X.A X.stack s H C8.E0).tr pn xe) W) (pass : ∀ cls d σ' H', E cls d H' → W cls d σ' H') (room : Room (k + 1) (X.A.deeper (envOfC qg sg s.heap.objs.size g cdg)))
    (der : ∀ (A : Around) (outer : List Env) (s : Shared) (H : Hp), Room k (A.deeper (lamEnv X scope s.heap.objs.size f c')) → PE (lamCx X A outer s H E scope f c') body tb)
    (hN : Ng[i]? = some a) (hv : Vis sg a) (hd : (a == ("__debug__" : Str)) = false := by decide) (hcd : (a == ("__classdict__" : Str)) = false := by decide) :
    PE ((cxOf C8.CX0 X.prog X.w X.K X.mg X.base Ng qg sg g cdg X.A X.stack s H C8.E0).tr pn xe) (.Call (.Name a p1) [] [] p2)
      (fun σZ HZ Q => σZ[i]? = some (some (.ref f)) ∧ HZ c' = some (CodeO c' (X.env.qual ++ "<lambda>")) ∧ tb σ HZ Q) := by
  refine ⟨fun pinsZ sZ σZ HZ Q IZ hh => ?_⟩
  obtain ⟨slot, code, rd⟩ := hh
  have ask := (pe_var (pos := p1) (i := i) hN hv hd hcd).run pinsZ sZ σZ HZ (fun v K1 => v = .ref f ∧ K1 = HZ) IZ ⟨.ref f, slot, rfl, rfl⟩
  refine wpAny_Call_Name_kw (thn ask fun u t1 ⟨v, K1, J1, r1, q1⟩ => ?_)
  obtain ⟨rfl, rfl⟩ := q1
  obtain rfl : u = Value.ref f := r1
  have since : Un (frs X.stack) [] H K1 s.heap t1.heap := J1.base
  have nil : ∀ b : Addr, b ∉ ([] : List Addr) := fun b z => by cases z
  have obj : t1.heap.get? f = some (lamOb (X.env.qual ++ "<lambda>") params body scope (cloFrom X.env.cells scope.names []) pm c' ctv) := since.keep f _ ob fn fr (nil f)
  refine PySem.W.callWith_F0 ⟨_, _, _, _, obj⟩ ?_
  obtain ⟨⟨oc, vs, t, oc1, oc2, oc3⟩, _, _⟩ := J1.hok c' _ code
  have Kp1 : CellsUp X σ K1 t1 := ⟨Kp.inj, fun y c e => by
      obtain ⟨⟨v, o, e1, e2⟩, n, nf⟩ := Kp.cel y c e
      exact ⟨⟨v, o, since.keep c o e1 n nf (nil c), e2⟩, since.free c o e1 n (nil c), nf⟩, fun j y v e1 e2 => by
      obtain ⟨u, c, r, lk, o, e3, e4⟩ := Kp.val j y v e1 e2
      obtain ⟨_, n, nf⟩ := Kp.cel y c lk
      exact ⟨u, c, r, lk, o, since.keep c o e3 n nf (nil c), e4⟩, Kp.len⟩
  have run : codeAny (model X.prog X.w) (X.A.deeper (envOfC qg sg s.heap.objs.size g cdg)) (.call (.ref f) ⟨[], []⟩) (CR (L2.CX X.prog X.w) (envOfC qg sg s.heap.objs.size g cdg :: X.stack) X.prog X.w K1 t1 Q E) t1 := by
    refine PySem.W.kla_callFunE room.depth obj rfl L.co L.gen rfl ⟨c', oc, vs, t, rfl, oc1, oc2, oc3⟩ ?_
    rw [bind]
    refine wpAny_pure (wpAny_newFunctionEnv (fun y hy => (L.own y hy).2) (fun y hy => absurd hy (by simp)) (fun g1 ns1 same1 => ⟨J1.nolimit.fresh _ same1, ?_⟩) L.kind)
    show codeAny _ _ (.expr body (lamEnv X scope t1.heap.objs.size f c')) _ _
    have grown : ∀ b o, t1.heap.get? b = some o → g1.get? b = some o := fun b o e => same1.extBut b o (Nat.ne_of_lt (Heap.lt_size e)) (Heap.get?_push_of_some _ e)
    have J : Inv (lamCx X (X.A.deeper (envOfC qg sg s.heap.objs.size g cdg)) (envOfC qg sg s.heap.objs.size g cdg :: X.stack) t1 K1 E scope f c') [] σ K1 { t1 with heap := g1, toks := t1.toks + ([] : List (Str × Value)).length } :=
      lam_begin L has Kp1 J1.env0 room.hd ns1 grown
    have go := (der _ _ t1 K1 (room.deeper _)).run [] _ _ K1 Q J rd
    refine PySem.W.kla_codeExpr (wpAny_mono go (fun v s' hq => ?_) fun e s' hq => hq)
    obtain ⟨v', K2, J2, rv, q⟩ := hq
    exact ⟨v', K2, J2.os, J2.bare, J2.base, J2.hok, rv, q⟩
  have out : Passes (L2.CX X.prog X.w) ((cxOf C8.CX0 X.prog X.w X.K X.mg X.base Ng qg sg g cdg X.A X.stack s H C8.E0).tr pn xe) E := passes_call tk pass
  refine wpAny_call (codeAny_mono run fun r s' hq => ?_)
  match r, hq with
  | .error e, hq => exact out pinsZ σZ K1 t1 e s' J1 hq
  | .ok (.ret u), hq => exact J1.after hq
  | .ok .next, hq => exact hq.elim
  | .ok .brk, hq => exact hq.elim
  | .ok .cont, hq => exact hq.elim
end
end AL

namespace AL
open PySem PySem.Spec PyProof.Rows L2
open LamX (CodeO TabS Tabs ExtN TabB LamS lamCx lamEnv GivesTo run_ofS)
/-! # a def whose cells outlive it -/
abbrev TSg := (L2.St → V → Hp → Prop) → L2.St → Hp → Prop
/-- statements that end by a return; the end knows the slots -/
structure PSg (X : Cx) (st : List Stmt) (t : TSg) : Prop where
  run : ∀ (pins : List (Addr × Obj)) (s : Shared) (σ : L2.St) (H : Hp) (R : L2.St → V → Hp → Prop), Inv X pins σ H s → t R σ H →
    wpAny (model X.prog X.w) X.A (execs st X.env) (fun fl s' => match fl with
      | .ret u => ∃ (x : V) (σ' : L2.St) (H' : Hp), Inv X pins σ' H' s' ∧ RelV x u ∧ R σ' x H'
      | _ => False) X.xe s
/-- nothing but going on -/
def onE (K : L2.St → Hp → Prop) : Ends := { nx := K, rt := fun _ _ => False, bk := fun _ _ => False, ct := fun _ _ => False }
def tCat (t : TS) (u : TSg) : TSg := fun R σ H => t (onE (u R)) σ H
def tEnd (te : TE) : TSg := fun R σ H => te σ H (R σ)
section
variable {X : Cx} {st : Stmt} {rest : List Stmt} {t : TS} {u : TSg} {te : TE} {e : Expr} {pos : Pos}
theorem psg_cons (h1 : PS X st t) (h2 : PSg X rest u) : PSg X (st :: rest) (tCat t u) := by
  refine ⟨fun pins s σ H R I h => wpAny_execs_cons (thn (h1.run pins s σ H (onE (u R)) I h) fun fl s1 q => ?_)⟩
  match fl, q with
  | .next, ⟨σ', H', I', q⟩ => exact h2.run pins s1 σ' H' R I' q
  | .ret v, ⟨_, _, _, _, _, q⟩ => exact q.elim
  | .brk, ⟨_, _, _, q⟩ => exact q.elim
  | .cont, ⟨_, _, _, q⟩ => exact q.elim
theorem psg_ret (he : PE X e te) : PSg X [.Return (some e) pos] (tEnd te) := by
  refine ⟨fun pins s σ H R I h => wpAny_execs_cons (wpAny_Return_some (thn (he.run pins s σ H (R σ) I h) fun v s1 q => ?_))⟩
  obtain ⟨x, H1, I1, r1, q1⟩ := q
  exact ⟨x, σ, H1, I1, r1, q1⟩
theorem r_catG {R : L2.St → V → Hp → Prop} {σ : L2.St} {H : Hp} (h : t (onE (u R)) σ H) : tCat t u R σ H := h
theorem r_endG {R : L2.St → V → Hp → Prop} {σ : L2.St} {H : Hp} (h : te σ H (R σ)) : tEnd te R σ H := h
end
abbrev nT : Str := "_law_table_here"
abbrev nA : Str := "_law_agent"
abbrev nL : Str := "_law_lock"
/-- the three cells from n on -/
def cl3 (n : Nat) : List (Str × Addr) := [(nL, n + 2), (nA, n + 1), (nT, n)]
def up3 (n : Nat) (a b c : Value) (H : Hp) : Hp := upd (upd (upd H n (CellO n a)) (n + 1) (CellO (n + 1) b)) (n + 2) (CellO (n + 2) c)
theorem cellO_own {c : Addr} {u : Value} (a : Addr) : CellO c u ≠ .own a := fun z => by unfold CellO at z; cases z
theorem cellO_tup {c : Addr} {u : Value} (xs : List V) : CellO c u ≠ .tup xs := fun z => by unfold CellO at z; cases z
theorem ne1 (n : Nat) : n + 1 ≠ n := by omega
theorem ne2 (n : Nat) : n + 2 ≠ n := by omega
theorem ne3 (n : Nat) : n + 2 ≠ n + 1 := by omega
theorem far1 {n : Nat} {H : Hp} {o : HO} (h : H (n + 1) = none) : upd H n o (n + 1) = none := by rw [upd_ne (ne1 n)]; exact h
theorem far2 {n : Nat} {H : Hp} {o o2 : HO} (h : H (n + 2) = none) : upd (upd H n o) (n + 1) o2 (n + 2) = none := by rw [upd_ne (ne3 n), upd_ne (ne2 n)]; exact h
/-- what its return is to give -/
def Out3 (n : Nat) (Q : VK) : L2.St → V → Hp → Prop := fun σ x H => ∃ vT vA vL, σ[0]? = some (some vT) ∧ σ[1]? = some (some vA) ∧ σ[2]? = some (some vL) ∧
  ∀ a b c, RelV vT a → RelV vA b → RelV vL c → H n = none → H (n + 1) = none → H (n + 2) = none → Q x (up3 n a b c H)
theorem fn_out {P : Program} {w : World} {K : PySem.W.Frag} {mg : Str → Option Value} {base : Heap} {x qual : Str} {st : Stmt} {p : He.Defn} {N ps : List Str} {k : Nat} {sp : Sp} {fd : FuncData} (F : FunD K x qual (defArgs st) (defBody st) (defScope st) [] [] (He.fAd K p) fd) (S : FnScope N ps (defScope st))
    (h3 : ∀ n, cellsFrom n (defScope st).names [] = cl3 n) (hN : N[0]? = some nT ∧ N[1]? = some nA ∧ N[2]? = some nL) (kn : ∀ y, (y = nT ∨ y = nA ∨ y = nL) → (defScope st).names.lookup y = some .cell)
    (len : ∀ vs H Q E, sp vs H Q E → vs.length = ps.length)
    (hbody : ∀ (A : Around) (outer : List Env) (s : Shared) (H : Hp) (vs : List V) (Q : VK) (E : XK), Room k (A.deeper (envOfC qual (defScope st) s.heap.objs.size (He.fAd K p) (.ref (He.cT K p).1))) → sp vs H Q E →
      ∃ t, PSg (cxOf (L2.CX P w) P w K mg base N qual (defScope st) (He.fAd K p) (.ref (He.cT K p).1) A outer s H E) (defBody st) t ∧ t (Out3 (s.heap.objs.size + 1) Q) (start N vs) H) : FnOk P w K mg base (L2.CX P w) (k + 1) (He.fAd K p) fd ps sp := by
  obtain ⟨oc, od, dV, kV, doc, pm, an, cdv, ct, osl, e, lk, hcd, _, _⟩ := F.ex
  obtain ⟨c, rfl⟩ := He.codeIn_ref hcd
  subst e
  rw [show (He.cT K p).1 = c from He.codeOf_eq lk rfl] at hbody
  refine ⟨len, fun A outer s H args us vs Q E room b0 bnd rel hsp => ?_⟩
  have il := len _ _ _ _ hsp
  have inK : K.In s.heap := b0.mod.kin.keeps fun b o q => (b0.bs b o q).1
  have noL : s.heap.NoLimit := b0.mod.nolimit.keeps fun b o q => (b0.bs b o q).1
  have kinds : ∀ y ∈ ps.zip us, (defScope st).names.lookup y.1 = some .local ∨ ((defScope st).names.lookup y.1 = some .cell ∧ ((cellsFrom (s.heap.objs.size + 1) (defScope st).names []).lookup y.1).isSome = true) := fun y hy =>
    (S.par y.1 (List.of_mem_zip hy).1).imp id fun q => ⟨q, PySem.W.cellsFrom_some _ _ _ (.inl q)⟩
  refine codeAny_call_function room.depth (inK _ _ lk) rfl S.co S.gen rfl (PySem.W.codeRec_of inK hcd) (bnd _ _ _ _ (wpAny_newFunctionEnv_cells S.kind kinds fun env ev s1 ic => ?_))
  subst ev
  refine ⟨noL.keeps ic.toInCall.keep, codeAny_func ?_⟩
  obtain ⟨t, der, rd⟩ := hbody A outer s H vs Q E (room.deeper _) hsp
  have J0 := inv_start (CX := L2.CX P w) (E := E) S room.hd b0 il rel ic
  refine wpAny_mono (der.run [] s1 (start N vs) H _ J0 rd) (fun fl s' q => ?_) fun _ _ q => q
  match fl, q with
  | .next, q => exact q.elim
  | .brk, q => exact q.elim
  | .cont, q => exact q.elim
  | .ret u, ⟨v, σ', H', J, rv, vT, vA, vL, e0, e1, e2, fin⟩ =>
    have at_ : ∀ (i : Nat) (y : Str) (z : V), N[i]? = some y → σ'[i]? = some (some z) → (y = nT ∨ y = nA ∨ y = nL) → ∃ (d : Addr) (uz : Value), (cl3 (s.heap.objs.size + 1)).lookup y = some d ∧ RelV z uz ∧ s'.heap.IsCell d (some uz) ∧ H' d = none ∧ s.heap.objs.size ≤ d := fun i y z hn hz hy => by
      obtain ⟨m, _, look⟩ := J.loc
      have kc := kn y hy
      obtain ⟨uz, r, q⟩ := look i y z hn hz (.inr (.inl kc))
      rcases q with ⟨q, _⟩ | ⟨_, d, ed, ic⟩
      · exact absurd ((show (defScope st).names.lookup y = some .local from q).symm.trans kc) (by simp)
      · refine ⟨d, uz, ?_, r, ic, J.freeC y d ed, J.ok.cab y d rfl ed⟩
        rw [← h3]
        exact ed
    obtain ⟨d0, a, l0, r0, c0, f0, g0⟩ := at_ 0 nT vT hN.1 e0 (.inl rfl)
    obtain ⟨d1, b, l1, r1, c1, f1, g1⟩ := at_ 1 nA vA hN.2.1 e1 (.inr (.inl rfl))
    obtain ⟨d2, c, l2, r2, c2, f2, g2⟩ := at_ 2 nL vL hN.2.2 e2 (.inr (.inr rfl))
    generalize en : s.heap.objs.size + 1 = n at *
    have x0 : d0 = n := (Option.some.inj (l0.symm.trans (show (cl3 n).lookup nT = some n from rfl)))
    have x1 : d1 = n + 1 := (Option.some.inj (l1.symm.trans (show (cl3 n).lookup nA = some (n + 1) from rfl)))
    have x2 : d2 = n + 2 := (Option.some.inj (l2.symm.trans (show (cl3 n).lookup nL = some (n + 2) from rfl)))
    subst x0 x1 x2
    have un0 : Un (frs outer) [] H H' s.heap s'.heap := J.base
    obtain ⟨un1, ok1⟩ := track un0 J.hok f0 g0 cellO_own cellO_tup (cellO_ok (u := a) c0)
    obtain ⟨un2, ok2⟩ := track un1 ok1 (far1 f1) g1 cellO_own cellO_tup (cellO_ok (u := b) c1)
    obtain ⟨un3, ok3⟩ := track un2 ok2 (far2 f2) g2 cellO_own cellO_tup (cellO_ok (u := c) c2)
    exact ⟨v, _, J.os, J.bare, un3, ok3, rv, fin a b c r0 r1 r2 f0 f1 f2⟩
end AL

namespace AL
open PySem PySem.Spec PyProof.Rows L2
open LamX (CodeO TabS Tabs ExtN TabB LamS lamCx lamEnv GivesTo run_ofS)
/-! # the catcher, handed a stored lambda -/
structure LamD where
  params : Arguments
  body : Expr
  scope : Scope
/-- the maker's frame, as far as the lambda leans on it -/
def mk3 (X : Cx) (q0 : Str) (sc : Scope) (n : Nat) : Cx := { X with N := [nT, nA, nL], env := { X.env with qual := q0, scope := sc, cells := cl3 n } }
structure GoodL (X : Cx) (k : Nat) (q0 : Str) (sc : Scope) (d : LamD) (tb : XK → TE) : Prop where
  ls : LamS sc d.scope
  has : ∀ y ∈ d.scope.names, y.2 = .free → y.1 = nT ∨ y.1 = nA ∨ y.1 = nL
  bind : ∀ (q : Str) (cl : List (Str × Addr)) (pm cv ctv : Value), bindArgs (PySem.W.kla_fn "<lambda>" q d.params d.body d.scope cl pm cv ctv) ⟨[], []⟩ = pure []
  der : ∀ (n : Nat) (A : Around) (outer : List Env) (s : Shared) (H : Hp) (E : XK) (f c' : Addr), Room k (A.deeper (lamEnv (mk3 X q0 sc n) d.scope s.heap.objs.size f c')) → PE (lamCx (mk3 X q0 sc n) A outer s H E d.scope f c') d.body (tb E)
def Cells3 (n : Nat) (vT vA vL : V) (H : Hp) : Prop := ∃ a b c, RelV vT a ∧ RelV vA b ∧ RelV vL c ∧ H n = some (CellO n a) ∧ H (n + 1) = some (CellO (n + 1) b) ∧ H (n + 2) = some (CellO (n + 2) c)
/-- what is put away for the call -/
abbrev cs4 (f : Addr) (n : Nat) : List Addr := [f, n, n + 1, n + 2]
def tKindV (te : TE) (q0 : Str) (ds : List LamD) (TT : (XK → Hp → VK → Prop) → Hp → VK → Prop) (tb : XK → TE) : TE := fun σ H Q => te σ H fun v H1 => ∃ (f : Addr) (n : Nat) (vT vA vL : V) (d : LamD), v = .ref f ∧ d ∈ ds ∧
  LamAt (q0 ++ "<lambda>") d.params d.body d.scope (cloFrom (cl3 n) d.scope.names []) f H1 ∧ Cells3 n vT vA vL H1 ∧
  TT (fun E H' Q' => tb E [some vT, some vA, some vL] H' Q') (less (cs4 f n) H1) (fun x H' => Q x (back (cs4 f n) H1 H'))
theorem cl3_inj {n : Nat} : ∀ (x y : Str) (c : Addr), (cl3 n).lookup x = some c → (cl3 n).lookup y = some c → x = y := by
  have key : ∀ (x : Str) (c : Addr), (cl3 n).lookup x = some c → (x = nL ∧ c = n + 2) ∨ (x = nA ∧ c = n + 1) ∨ (x = nT ∧ c = n) := fun x c e => by
    have := PySem.mem_of_lookup e
    unfold cl3 at this
    simp only [List.mem_cons, Prod.mk.injEq, List.not_mem_nil, or_false] at this
    exact this
  intro x y c e1 e2
  rcases key x c e1 with ⟨h1, g1⟩ | ⟨h1, g1⟩ | ⟨h1, g1⟩ <;> rcases key y c e2 with ⟨h2, g2⟩ | ⟨h2, g2⟩ | ⟨h2, g2⟩ <;> first
    | (rw [h1, h2]; done)
    | (rw [g1] at g2; first | exact absurd g2 (ne3 n) | exact absurd g2.symm (ne3 n) | exact absurd g2 (ne2 n) | exact absurd g2.symm (ne2 n) | exact absurd g2 (ne1 n) | exact absurd g2.symm (ne1 n))
section
variable {X : Cx}
theorem pe_kindval {TT : (XK → Hp → VK → Prop) → Hp → VK → Prop} {x a y q0 : Str} {g : Addr} {k : Nat} {pg : Arguments} {bg : List Stmt} {sg sc : Scope} {dV kV doc pm cdv ct oc : Value} {an od : Option Addr} {osl : Array (Option Value)} {Ng : List Str}
    {te : TE} {ds : List LamD} {tb : XK → TE} {p py pos : Pos} (isG : Gl X x) (mgx : X.mg x = some (.ref g)) (kp : PySem.W.keepIn X.K (.ref g) = true)
    (lk : X.K.lookup g = some ⟨oc, od, .func (PySem.W.fnOf x x pg bg sg dV kV doc pm an cdv ct), osl⟩) (cdx : PySem.W.codeIn X.K cdv x = true) (bd : L2.Binds X.K (PySem.W.fnOf x x pg bg sg dV kV doc pm an cdv ct) [a] []) (Sg : FnScope Ng [a] sg) (n0 : Ng[0]? = some a) (va : Vis sg a)
    (gv : GivesTo X Ng x sg g cdv bg a (q0 ++ "<lambda>") TT) (room : Room (k + 2) X.A) (he : PE X (.Name y py) te) (good : ∀ d ∈ ds, GoodL X k q0 sc d tb)
    (hdb : (x == ("__debug__" : Str)) = false := by decide) (hd : (a == ("__debug__" : Str)) = false := by decide) (hcd : (a == ("__classdict__" : Str)) = false := by decide) :
    PE X (.Call (.Name x p) [.Name y py] [] pos) (tKindV te q0 ds TT tb) := by
  refine ⟨fun pins s σ H Q I hh => ?_⟩
  refine wpAny_Call_Name_kw (ld_glob I isG mgx ?_ hdb)
  refine PySem.W.callWith_K (h₀ := X.base) I.ok.mod.kin kp ?_ (by rfl) (by rfl)
  show wpAny _ _ (spliced ((false, eval (.Name y py) X.env) :: backTo pos (starEach [] X.env))) _ _ s
  refine Calls.spliced_cons (thn (he.run pins s σ H _ I hh) fun u s1 ⟨v, H1, I1, r1, q1⟩ => ?_)
  obtain ⟨f, n, vT, vA, vL, d, rfl, hd_, ⟨c', pm', ctv', eF, eC⟩, ⟨ua, ub, uc, ra, rb, rcc, ca, cb, cc⟩, rd⟩ := q1
  obtain rfl : u = Value.ref f := r1
  have G := good d hd_
  refine Calls.spliced_nil ⟨I1.kIn, ?_⟩
  have ownC : Own (cs4 f n) H1 := fun b hb => by
    simp only [List.mem_cons, List.not_mem_nil, or_false] at hb
    rcases hb with e | e | e | e
    · rw [e]; exact ⟨_, eF⟩
    · rw [e]; exact ⟨_, ca⟩
    · rw [e]; exact ⟨_, cb⟩
    · rw [e]; exact ⟨_, cc⟩
  have b1 := I1.env0
  have nf : ∀ c ∈ cs4 f n, c ∉ frs X.stack := fun c hc z => by
    obtain ⟨φ, e⟩ := ownC c hc
    rw [b1.frf c z] at e
    cases e
  have isCell : ∀ {c : Addr} {u : Value}, H1 c = some (CellO c u) → s1.heap.IsCell c (some u) := fun {c u} e => (show s1.heap.IsCell c (some u) ∧ _ from b1.hok c _ e).1
  have obF : s1.heap.get? f = some (lamOb (q0 ++ "<lambda>") d.params d.body d.scope (cloFrom (cl3 n) d.scope.names []) pm' c' ctv') := (show s1.heap.get? f = some _ ∧ _ from b1.hok f _ eF).1
  have nc : c' ∉ cs4 f n := fun z => by
    obtain ⟨⟨oc, vs, t, o1, o2, o3⟩, _, _⟩ := b1.hok c' _ eC
    have cellNo : ∀ {c u}, c' = c → H1 c = some (CellO c u) → False := fun {c u} e1 e2 => by
      obtain ⟨o, p1, p2⟩ := isCell e2
      rw [← e1, o1] at p1
      cases p1
      rw [o2] at p2
      cases p2
    simp only [List.mem_cons, List.not_mem_nil, or_false] at z
    rcases z with e | e | e | e
    · rw [e, obF] at o1
      cases o1
      cases o2
    · exact cellNo e ca
    · exact cellNo e cb
    · exact cellNo e cc
  have mem0 : f ∈ cs4 f n := List.mem_cons_self
  have mem1 : n ∈ cs4 f n := List.mem_cons_of_mem _ List.mem_cons_self
  have mem2 : n + 1 ∈ cs4 f n := List.mem_cons_of_mem _ (List.mem_cons_of_mem _ List.mem_cons_self)
  have mem3 : n + 2 ∈ cs4 f n := List.mem_cons_of_mem _ (List.mem_cons_of_mem _ (List.mem_cons_of_mem _ List.mem_cons_self))
  have lks : ∀ (z : Str) (c : Addr), (cl3 n).lookup z = some c → (c = n + 2 ∨ c = n + 1 ∨ c = n) := fun z c e => by
    have := PySem.mem_of_lookup e
    unfold cl3 at this
    simp only [List.mem_cons, Prod.mk.injEq, List.not_mem_nil, or_false] at this
    rcases this with ⟨_, q⟩ | ⟨_, q⟩ | ⟨_, q⟩
    · exact .inl q
    · exact .inr (.inl q)
    · exact .inr (.inr q)
  have vals : ∀ (i : Nat) (z : Str) (v : V), [nT, nA, nL][i]? = some z → ([some vT, some vA, some vL] : L2.St)[i]? = some (some v) → ∃ u c, RelV v u ∧ (cl3 n).lookup z = some c ∧ s1.heap.IsCell c (some u) := fun i z v e1 e2 => by
    match i, e1, e2 with
    | 0, e1, e2 => cases e1; cases e2; exact ⟨ua, n, ra, rfl, isCell ca⟩
    | 1, e1, e2 => cases e1; cases e2; exact ⟨ub, n + 1, rb, rfl, isCell cb⟩
    | 2, e1, e2 => cases e1; cases e2; exact ⟨uc, n + 2, rcc, rfl, isCell cc⟩
    | j + 3, e1, e2 => cases e2
  have Kp : CellsUp (mk3 X q0 sc n) [some vT, some vA, some vL] (less (cs4 f n) H1) s1 := ⟨cl3_inj, fun z c e => by
      rcases lks z c e with q | q | q
      · rw [q]; exact ⟨⟨_, isCell cc⟩, less_in mem3, nf _ mem3⟩
      · rw [q]; exact ⟨⟨_, isCell cb⟩, less_in mem2, nf _ mem2⟩
      · rw [q]; exact ⟨⟨_, isCell ca⟩, less_in mem1, nf _ mem1⟩, vals, rfl⟩
  have has : ∀ z ∈ d.scope.names, z.2 = .free → ∃ c, (mk3 X q0 sc n).env.cells.lookup z.1 = some c := fun z hz e => by
    rcases G.has z hz e with q | q | q
    · rw [q]; exact ⟨n, rfl⟩
    · rw [q]; exact ⟨n + 1, rfl⟩
    · rw [q]; exact ⟨n + 2, rfl⟩
  have eC' : less (cs4 f n) H1 c' = some (CodeO c' (q0 ++ "<lambda>")) := by rw [less_out nc]; exact eC
  have inner : codeAny (model X.prog X.w) X.A (.call (.ref g) ⟨[.ref f], []⟩) (CR C8.CX0 X.stack X.prog X.w (less (cs4 f n) H1) s1 (fun x H' => Q x (back (cs4 f n) H1 H')) C8.E0) s1 := by
    refine run_ofS (N := Ng) (ps := [a]) (us := [.ref f]) (vs := [.ref f]) lk cdx Sg room (env0_less ownC b1) (bd s1 [.ref f] I1.kIn rfl) (.cons rfl .nil) rfl fun room' => ?_
    obtain ⟨t', der', rd'⟩ := gv f c' s1 (less (cs4 f n) H1) (fun x H' => Q x (back (cs4 f n) H1 H')) (fun E H' Q' => tb E [some vT, some vA, some vL] H' Q')
      (fun W pn xe E p1 p2 tk hW => pe_stored (X := mk3 X q0 sc n) (i := 0) G.ls has Kp obF (less_in mem0) (nf _ mem0) (G.bind _ _ _ _ _) tk hW room' (fun A outer s H room2 => G.der n A outer s H E f c' room2) n0 va hd hcd) eC' rd
    exact ⟨t', der'.nox, rd'⟩
  refine wpAny_call (codeAny_mono inner fun r s2 hq => ?_)
  match r, hq with
  | .error e, hq => exact (show False from hq).elim
  | .ok (.ret u), hq => exact I1.after (ce_back ownC b1.hok nf hq)
  | .ok .next, hq => exact hq.elim
  | .ok .brk, hq => exact hq.elim
  | .ok .cont, hq => exact hq.elim
end
end AL

namespace AL
open PySem PySem.Spec PyProof.Rows L2
open LamX (CodeO TabS Tabs ExtN TabB LamS lamCx lamEnv GivesTo run_ofS)
/-! # stored lambdas in the readings -/
section
variable {K : PySem.W.Frag} {H H' H3 : Hp} {cs : List Addr} {A : TA} {T : Tb} {C : Addr} {S : Addr → Prop}
theorem TbAt.away (O : Own cs H) (h : TbAt C H A T) : TbAt C (less cs H) A T := by
  have k : ∀ {b o}, H b = some o → (∀ φ, o ≠ .ext φ) → less cs H b = some o := fun e n => by rw [less_out (O.not e n)]; exact e
  exact ⟨k h.ins (fun φ z => by cases z), k h.own (fun φ z => by cases z), k h.lin (fun φ z => by cases z), k h.tim (fun φ z => by cases z), k h.wan (fun φ z => by cases z), k h.rou (fun φ z => by cases z), fun i a q => k (h.each i a q) (fun φ z => by cases z), h.ll, h.nd, h.sz⟩
theorem fr_back (O : Own cs H) (f : Fr No (less cs H) H3) : Fr No H (back cs H H3) := by
  refine ⟨fun b o e _ => ?_, fun b xs e => ?_, fun b e => ?_⟩
  · by_cases z : b ∈ cs
    · rw [back_in z]; exact e
    · rw [back_out z]; exact f.old b o (by rw [less_out z]; exact e) (fun q => q)
  · by_cases z : b ∈ cs
    · rw [back_in z]; exact e
    · rw [back_out z]; exact f.tup b xs (by rw [less_out z]; exact e)
  · by_cases z : b ∈ cs
    · rw [back_in z] at e; exact e
    · rw [back_out z] at e
      have := f.thr b e
      rw [less_out z] at this
      exact this
theorem LamAt.ext {q : Str} {params : Arguments} {body : Expr} {scope : Scope} {cl : List (Str × Addr)} {f : Addr} (h : LamAt q params body scope cl f H) (e : ExtN H H') : LamAt q params body scope cl f H' := by
  obtain ⟨c', pm, ctv, h1, h2⟩ := h
  exact ⟨c', pm, ctv, e _ _ h1 lamO_tbl, e _ _ h2 LamX.codeO_ne⟩
theorem extN_fr {p : Addr} {xs ys : List V} (h : H p = some (.lst xs)) : ∀ b o, (∀ zs, o ≠ .lst zs) → H b = some o → upd H p (.lst ys) b = some o := fun b o n e => by
  rw [upd_ne (fun z => by rw [z, h] at e; exact n xs (Option.some.inj e).symm)]
  exact e
theorem LamAt.kept {q : Str} {params : Arguments} {body : Expr} {scope : Scope} {cl : List (Str × Addr)} {f : Addr} (h : LamAt q params body scope cl f H) (e : ∀ b φ, H b = some (.ext φ) → H' b = some (.ext φ)) : LamAt q params body scope cl f H' := by
  obtain ⟨c', pm, ctv, h1, h2⟩ := h
  exact ⟨c', pm, ctv, e _ _ h1, e _ _ h2⟩
theorem Cells3.kept {n : Nat} {vT vA vL : V} (h : Cells3 n vT vA vL H) (e : ∀ b φ, H b = some (.ext φ) → H' b = some (.ext φ)) : Cells3 n vT vA vL H' := by
  obtain ⟨a, b, c, r1, r2, r3, h1, h2, h3⟩ := h
  exact ⟨a, b, c, r1, r2, r3, e _ _ h1, e _ _ h2, e _ _ h3⟩
/-- the lambdas ds stand at fs -/
def Lams (q : Str) (cl : List (Str × Addr)) (ds : List LamD) (fs : List Addr) (H : Hp) : Prop := fs.length = ds.length ∧ ∀ (i : Nat) f d, fs[i]? = some f → ds[i]? = some d → LamAt q d.params d.body d.scope cl f H
end
/-- the closure differs from lambda to lambda -/
def LamsC (q : Str) (n : Nat) (ds : List LamD) (fs : List Addr) (H : Hp) : Prop := fs.length = ds.length ∧ ∀ (i : Nat) f d, fs[i]? = some f → ds[i]? = some d → LamAt q d.params d.body d.scope (cloFrom (cl3 n) d.scope.names []) f H
section
variable {K : PySem.W.Frag} {H H' : Hp} {q : Str} {n : Nat} {ds : List LamD} {fs : List Addr} {f : Addr} {d : LamD}
theorem LamsC.nil : LamsC q n [] [] H := ⟨rfl, fun i f d h => by cases h⟩
theorem LamsC.kept (h : LamsC q n ds fs H) (e : ∀ b φ, H b = some (.ext φ) → H' b = some (.ext φ)) : LamsC q n ds fs H' := ⟨h.1, fun i f d h1 h2 => (h.2 i f d h1 h2).kept e⟩
theorem LamsC.snoc (h : LamsC q n ds fs H) (h1 : LamAt q d.params d.body d.scope (cloFrom (cl3 n) d.scope.names []) f H) : LamsC q n (ds ++ [d]) (fs ++ [f]) H := by
  refine ⟨by rw [List.length_append, List.length_append, h.1]; rfl, fun i g e g1 g2 => ?_⟩
  by_cases z : i < fs.length
  · rw [List.getElem?_append_left z] at g1
    rw [List.getElem?_append_left (by rw [← h.1]; exact z)] at g2
    exact h.2 i g e g1 g2
  · rw [List.getElem?_append_right (Nat.not_lt.mp z)] at g1
    rw [List.getElem?_append_right (by rw [← h.1]; exact Nat.not_lt.mp z), ← h.1] at g2
    cases k : i - fs.length with
    | zero => rw [k] at g1 g2; cases g1; cases g2; exact h1
    | succ m => rw [k] at g1; cases g1
theorem ext_of (e : ExtN H H') : ∀ b φ, H b = some (.ext φ) → H' b = some (.ext φ) := fun b φ h => e b _ h (fun ps z => by cases z)
theorem ext_frK (f : Fr No H H') : ∀ b φ, H b = some (.ext φ) → H' b = some (.ext φ) := fun b φ h => f.old b _ h (fun z => z)
theorem ext_put {p : Addr} {xs ys : List V} (h : H p = some (.lst xs)) : ∀ b φ, H b = some (.ext φ) → upd H p (.lst ys) b = some (.ext φ) := fun b φ e => extN_fr h b _ (fun zs z => by cases z) e
/-- what is raised at an agent, a lock that there isn't -/
def BadA : List V → Hp → Tb → Prop := fun vs H T => ∃ a : Int, vs[1]? = some (.int a) ∧ ¬ T.isA a
abbrev tBad (K : PySem.W.Frag) (w : Wd) (bad : Tb → Int → Int → Prop) (E : XK) : TE := fun σ H _ => ∃ A T a l, σ = [some (.ref (TA.p A)), some (.int a), some (.int l)] ∧ TbK K H A T ∧ T.Wf ∧ bad T a l ∧ ∀ H2, Fr No H H2 → eW K w E H2
def badA (T : Tb) (a l : Int) : Prop := ¬ T.isA a
def badL (T : Tb) (a l : Int) : Prop := T.isA 0 ∧ T.wa 0 = none ∧ ¬ T.isL l
/-- the catcher told of a stored lambda that raises -/
theorem r_kindval {σ : L2.St} {Q : VK} {te : TE} {q0 : Str} {ds : List LamD} {w : Wd} {bad : Tb → Int → Int → Prop} {A : TA} {T : Tb} {a l : Int} {n : Nat} (ht : ∀ Q : VK, Q (.ref f) H → te σ H Q) (hd : d ∈ ds)
    (h1 : LamAt (q0 ++ "<lambda>") d.params d.body d.scope (cloFrom (cl3 n) d.scope.names []) f H) (h2 : Cells3 n (.ref A.p) (.int a) (.int l) H)
    (hT : TbK K H A T) (hW : T.Wf) (hb : bad T a l) (q : ∀ H2, Fr No H H2 → Q (.str w.str) H2) : tKindV te q0 ds (TKind K) (tBad K w bad) σ H Q := by
  have O : Own (cs4 f n) H := fun b hb => by
    obtain ⟨c', pm, ctv, e0, _⟩ := h1
    obtain ⟨_, _, _, _, _, _, e1, e2, e3⟩ := h2
    simp only [List.mem_cons, List.not_mem_nil, or_false] at hb
    rcases hb with e | e | e | e
    · rw [e]; exact ⟨_, e0⟩
    · rw [e]; exact ⟨_, e1⟩
    · rw [e]; exact ⟨_, e2⟩
    · rw [e]; exact ⟨_, e3⟩
  refine ht _ ⟨f, n, _, _, _, d, rfl, hd, h1, h2, ?_⟩
  refine ⟨A, T, a, l, rfl, hT.away O, hW, hb, fun H2 f2 => ⟨rfl, w, rfl, fun H3 f3 => ?_⟩⟩
  exact q _ (fr_back O (f2.trans f3))
end
end AL

namespace AL
open PySem PySem.Spec PyProof.Rows L2
open LamX (CodeO TabS Tabs ExtN TabB LamS lamCx lamEnv GivesTo run_ofS)
/-! # tables that are new; promises -/
namespace Tb
variable {n m : Nat}
theorem new_wait (a : Nat) : (Tb.new n m).wa a = none := by
  unfold Tb.new wa
  dsimp only
  rw [List.getD_eq_getElem?_getD, List.getElem?_replicate]
  split <;> rfl
theorem new_nx (a : Nat) : (Tb.new n m).nx a = none := by
  unfold nx
  rw [new_wait]
theorem new_way (a : Nat) : (Tb.new n m).way a = ([a], none) := by
  unfold way
  rw [new_nx]
  cases (Tb.new n m).n <;> rfl
theorem new_rings : (Tb.new n m).ringsT = [] := by
  unfold ringsT
  rw [List.filterMap_eq_nil_iff]
  intro a _
  unfold ringAt
  rw [new_way, if_neg (fun z => nomatch z.1)]
theorem new_chain (a : Nat) : (Tb.new n m).chainT a = [a] := by
  unfold chainT
  rw [new_way]
theorem new_lights : (Tb.new n m).lights = [] := by
  unfold lights
  rw [new_rings]
  rfl
end Tb
abbrev sp_next01 (K : PySem.W.Frag) : Sp := sp2 fun x y H Q E => ∃ A T, ∃ a : Int, x = .ref (TA.p A) ∧ y = .int a ∧ TbK K H A T ∧ T.Wf ∧ (T.isA a → Q (oV (T.nx a.toNat)) H) ∧ (¬ T.isA a → eW K .noAgent E H)
abbrev sp_chain01 (K : PySem.W.Frag) : Sp := sp2 fun x y H Q E => ∃ A T, ∃ a : Int, x = .ref (TA.p A) ∧ y = .int a ∧ TbK K H A T ∧ T.Wf ∧ (T.isA a → ∀ p H', H p = none → H' p = some (.lst ((T.chainT a.toNat).map nV)) → Fr No H H' → Q (.ref p) H') ∧
  (¬ T.isA a → ∀ H', Fr No H H' → eW K .noAgent E H')
abbrev sp_Lworks (Tl : List (Addr × Str)) (q : Str) (dsA dsL : List LamD) (K : PySem.W.Frag) : Sp := sp3 fun x y z H Q _ => ∃ A T, ∃ a l : Int, x = .ref (TA.p A) ∧ y = .int a ∧ z = .int l ∧ TbK K H A T ∧ Tabs Tl H ∧
  ∀ p ps po (fs gs : List Addr) n H', H' p = some (.tup [.ref ps, .ref po]) → H' ps = some (.lst (fs.map V.ref)) → H' po = some (.lst (gs.map V.ref)) → LamsC q n dsA fs H' → LamsC q n dsL gs H' → Cells3 n (.ref A.p) (.int a) (.int l) H' →
    Tabs Tl H' → ExtN H H' → (∀ b, H' b = none → H b = none) → Q (.ref p) H'
/-! # lambdas told apart in the text -/
def lamE (dflt : LamD) : Expr → LamD
  | .Lambda p b s _ => ⟨p, b, s⟩
  | _ => dflt
def lamL (dflt : LamD) : List Expr → LamD
  | [e] => lamE dflt e
  | _ => dflt
def lamSt (dflt : LamD) : Stmt → LamD
  | .Assign _ (.List es _) _ => lamL dflt es
  | .Expr (.Call _ es _ _) _ => lamL dflt es
  | _ => dflt
/-! # the lists of lambdas grow -/
theorem extN_frN {H H' : Hp} (f : Fr No H H') : ExtN H H' := fun b o e _ => f.old b o e (fun z => z)
structure Wst (Tl : List (Addr × Str)) (q : Str) (n : Nat) (H0 H : Hp) (ps : Addr) (ds : List LamD) (fs : List Addr) : Prop where
  ext : ExtN H0 H
  thr : ∀ b, H b = none → H0 b = none
  tabs : Tabs Tl H
  at_ : H ps = some (.lst (fs.map V.ref))
  new : H0 ps = none
  lam : LamsC q n ds fs H
section
variable {Tl : List (Addr × Str)} {q : Str} {n : Nat} {H0 H H2 : Hp} {ps po f : Addr} {ds es : List LamD} {fs gs : List Addr} {d : LamD}
theorem lst_ext {xs : List V} (e : ExtN H H2) (h : H ps = some (.lst xs)) : H2 ps = some (.lst xs) := e _ _ h (fun z q => by cases q)
/-- the first of a list -/
theorem Wst.one (e : ExtN H0 H) (t : ∀ b, H b = none → H0 b = none) (tb : Tabs Tl H) (l : LamAt q d.params d.body d.scope (cloFrom (cl3 n) d.scope.names []) f H) (hp : H ps = none) (e2 : H2 ps = some (.lst [.ref f])) (g : Fr No H H2) : Wst Tl q n H0 H2 ps [d] [f] :=
  ⟨e.trans (extN_frN g), fun b z => t b (g.thr b z), tabs_fr tb g old_no, e2, t _ hp, LamsC.snoc (ds := []) (fs := []) LamsC.nil (l.kept (ext_frK g))⟩
/-- one more -/
theorem Wst.step (w : Wst Tl q n H0 H ps ds fs) (e : ExtN H H2) (t : ∀ b, H2 b = none → H b = none) (tb : Tabs Tl H2) (l : LamAt q d.params d.body d.scope (cloFrom (cl3 n) d.scope.names []) f H2) : Wst Tl q n H0 (upd H2 ps (.lst (fs.map V.ref ++ [.ref f]))) ps (ds ++ [d]) (fs ++ [f]) := by
  have at2 := lst_ext e w.at_
  have fr : Fr (Only1 ps) H2 (upd H2 ps (.lst (fs.map V.ref ++ [.ref f]))) := Fr.put at2 (fun xs z => by cases z)
  refine ⟨fun b o h nt => ?_, fun b h => w.thr b (t b (fr.thr b h)), tabs_fr tb fr (old_one at2), by rw [upd_same, List.map_append]; rfl, w.new, ?_⟩
  · rw [upd_ne (fun z => by rw [z, w.new] at h; cases h)]
    exact e b o (w.ext b o h nt) nt
  · exact ((w.lam.kept (ext_of e)).snoc l).kept (ext_put at2)
/-- another list stays -/
theorem Wst.side {ys : List V} (h : H ps = some (.lst (fs.map V.ref))) (l : LamsC q n ds fs H) (e : ExtN H H2) (at2 : H2 po = some (.lst ys)) (ne : ps ≠ po) {zs : List V} : upd H2 po (.lst zs) ps = some (.lst (fs.map V.ref)) ∧ LamsC q n ds fs (upd H2 po (.lst zs)) :=
  ⟨by rw [upd_ne ne]; exact lst_ext e h, (l.kept (ext_of e)).kept (ext_put at2)⟩
theorem r_mklam {Tl : List (Addr × Str)} {q : Str} {params : Arguments} {body : Expr} {scope : Scope} {cl : List (Str × Addr)} {σ : L2.St} {Q : VK} (tb : Tabs Tl H) (h : ∀ f H2, ExtN H H2 → (∀ b, H2 b = none → H b = none) → Tabs Tl H2 → LamAt q params body scope cl f H2 → Q (.ref f) H2) : tMkLam Tl q params body scope cl σ H Q :=
  ⟨tb, fun f H2 e t tb2 _ l => h f H2 e t tb2 l⟩
/-- the cells come to be known -/
theorem up3_old {a b c : Value} (h0 : H n = none) (h1 : H (n + 1) = none) (h2 : H (n + 2) = none) : ∀ x o, H x = some o → up3 n a b c H x = some o := fun x o e => by
  unfold up3
  rw [upd_ne (ne_of_none e h2), upd_ne (ne_of_none e h1), upd_ne (ne_of_none e h0)]
  exact e
theorem up3_thr {a b c : Value} : ∀ x, up3 n a b c H x = none → H x = none := fun x e => by
  unfold up3 at e
  by_cases z : x = n + 2
  · rw [z, upd_same] at e; cases e
  rw [upd_ne z] at e
  by_cases z : x = n + 1
  · rw [z, upd_same] at e; cases e
  rw [upd_ne z] at e
  by_cases z : x = n
  · rw [z, upd_same] at e; cases e
  rw [upd_ne z] at e
  exact e
theorem up3_cells {a b c : Value} {vT vA vL : V} (r0 : RelV vT a) (r1 : RelV vA b) (r2 : RelV vL c) : Cells3 n vT vA vL (up3 n a b c H) := by
  refine ⟨a, b, c, r0, r1, r2, ?_, ?_, ?_⟩
  · unfold up3; rw [upd_ne (ne2 n).symm, upd_ne (ne1 n).symm, upd_same]
  · unfold up3; rw [upd_ne (ne3 n).symm, upd_same]
  · unfold up3; rw [upd_same]
end
/-- a reading by a stronger one -/
theorem pe_weak {X : Cx} {e : Expr} {t u : TE} (h : PE X e t) (k : ∀ σ H Q, u σ H Q → t σ H Q) : PE X e u := ⟨fun pins s σ H Q I q => h.run pins s σ H Q I (k σ H Q q)⟩
end AL

namespace AL
open PySem PySem.Spec PyProof.Rows L2
section
variable {t : TS} {u : TSg} {te : TE} {R : L2.St → V → Hp → Prop} {σ : L2.St} {H : Hp} {F : L2.St → Hp → Prop}
theorem r_onE (h : F σ H) : (onE F).nx σ H := h
instance i_onE : Stp ((onE F).nx σ H) (F σ H) := ⟨r_onE⟩
instance i_catG : Stp (tCat t u R σ H) (t (onE (u R)) σ H) := ⟨r_catG⟩
instance i_endG : Stp (tEnd te R σ H) (te σ H (R σ)) := ⟨r_endG⟩
end
theorem turns_no {d : Nat → PyData} : ∀ n : Nat, turns (fun _ => false) d n = [] := fun n => by
  unfold turns
  rw [List.filter_eq_nil_iff.mpr (fun _ _ z => absurd z Bool.false_ne_true)]
  rfl
theorem td_emp {H : Hp} {p : Addr} (h : LsAt H p []) : H p = some (.lst []) := by
  obtain ⟨vs, e, t⟩ := h
  cases t
  exact e
theorem r_neSame01 {K : PySem.W.Frag} {H : Hp} {Q : VK} {a b : Addr} {ds : List PyData} (h1 : LsAt H a ds) (h2 : LsAt H b ds) (hc : CmpAll ds) (q : Q (.bl false) H) : rNeD K (.ref a) (.ref b) H Q :=
  ⟨_, _, h1.dp, h2.dp, hc.shaped, hc.shaped, by rw [SeqAt.eqv_refl _ (by simp only [PyData.canLay0]; exact hc.1)]; exact q⟩
theorem word_cmp : (PyData.str "NoAgent").canLay0 = true ∧ (PyData.str "NoAgent").depth ≤ 59 := ⟨by decide +kernel, by simp [PyData.depth]⟩
end AL

namespace AL
open PySem PySem.Spec PyProof.Rows L2
def top (i : Nat) : Stmt := PySem.Challenge.pw_asklock_k01_tables_and_what_is_none.main.body.getD i (.Pass ⟨0, 0, 0, 0⟩)
abbrev s_t_init : Stmt := inClass (top 17) 0
abbrev s_t_need_agent : Stmt := inClass (top 17) 2
abbrev s_t_need_lock : Stmt := inClass (top 17) 3
abbrev s_t_need_both : Stmt := inClass (top 17) 4
abbrev s_t_need_free_to : Stmt := inClass (top 17) 5
abbrev s_t_take : Stmt := inClass (top 17) 6
abbrev s_t_ask : Stmt := inClass (top 17) 7
abbrev s_t_pass_on : Stmt := inClass (top 17) 8
abbrev s_t_give : Stmt := inClass (top 17) 9
abbrev s_t_leave : Stmt := inClass (top 17) 10
abbrev s_t_waits : Stmt := inClass (top 17) 11
abbrev s_t_held : Stmt := inClass (top 17) 12
abbrev s_t_wait_number : Stmt := inClass (top 17) 13
abbrev s_t_holder : Stmt := inClass (top 17) 14
abbrev s_t_queue : Stmt := inClass (top 17) 15
abbrev s_t_hold_number : Stmt := inClass (top 17) 16
abbrev s_t_agents : Stmt := inClass (top 17) 17
abbrev s_t_locks : Stmt := inClass (top 17) 18
abbrev s_next_of : Stmt := top 19
abbrev s_chain : Stmt := top 20
abbrev s_ring_of : Stmt := top 21
abbrev s_rings : Stmt := top 22
abbrev s_lightest : Stmt := top 23
abbrev s_least : Stmt := top 24
abbrev s_Lstart : Stmt := top 26
abbrev s_Ldrawn : Stmt := top 27
abbrev s_Lsame : Stmt := top 28
abbrev s_Ltable : Stmt := top 29
abbrev s_Lgot : Stmt := top 30
abbrev s_Lpassed : Stmt := top 31
abbrev s_Lfault : Stmt := top 32
abbrev s_Lask : Stmt := top 33
abbrev s_Lgive : Stmt := top 34
abbrev s_Lheld : Stmt := top 35
abbrev s_Lleave : Stmt := top 36
abbrev s_Lis : Stmt := top 37
abbrev s_Lkind : Stmt := top 38
abbrev s_Lfar : Stmt := top 39
abbrev s_Lworks : Stmt := top 40
abbrev s_law : Stmt := top 41
def scopeOf (x : Str) : Scope := if x = "_law_works" then defScope s_Lworks else if x = "law" then defScope s_law else ⟨.function, [], false, false, []⟩
def tf : List He.Defn := [("_law_works", none), ("law", none)]
def Ts (K : PySem.W.Frag) : List (Addr × Str) := tf.map fun d => ((He.cT K d).2, lamQ d.1 (scopeOf d.1))
def TBs (base : Heap) (mg : Str → Option Value) (K : PySem.W.Frag) : Prop := ∀ d ∈ tf, LamX.TabB base mg (He.cT K d).1 (He.cT K d).2
structure Txt (K : PySem.W.Frag) (mg : Str → Option Value) : Prop where
  ts : (tf.map fun d => (He.cT K d).2).Nodup
  e_LockError : ExT K mg "LockError"
  e_NoTable : ExT K mg "NoTable"
  e_NoHall : ExT K mg "NoHall"
  e_NoAgent : ExT K mg "NoAgent"
  e_NoLock : ExT K mg "NoLock"
  e_NoHouse : ExT K mg "NoHouse"
  e_NoLetter : ExT K mg "NoLetter"
  e_Stopped : ExT K mg "Stopped"
  e_Waits : ExT K mg "Waits"
  e_Holds : ExT K mg "Holds"
  e_NotHeld : ExT K mg "NotHeld"
  e_Up : ExT K mg "Up"
  g_Table : mg "Table" = some (.ref (He.ga K "Table"))
  c_Table : Cls K (He.ga K "Table")
  k_Table : Mk K (He.ga K "Table") (He.ma K (He.ga K "Table") "__init__")
  n_owners : NoAttr K (He.ga K "Table") "owners"
  n_lines : NoAttr K (He.ga K "Table") "lines"
  n_times : NoAttr K (He.ga K "Table") "times"
  n_wants : NoAttr K (He.ga K "Table") "wants"
  n_rounds : NoAttr K (He.ga K "Table") "rounds"
  f_t_init : DefAt K "__init__" "Table.__init__" s_t_init (He.ma K (He.ga K "Table") "__init__")
  m_t_need_agent : Meth K (He.ga K "Table") "need_agent" (He.ma K (He.ga K "Table") "need_agent")
  f_t_need_agent : DefAt K "need_agent" "Table.need_agent" s_t_need_agent (He.ma K (He.ga K "Table") "need_agent")
  m_t_need_lock : Meth K (He.ga K "Table") "need_lock" (He.ma K (He.ga K "Table") "need_lock")
  f_t_need_lock : DefAt K "need_lock" "Table.need_lock" s_t_need_lock (He.ma K (He.ga K "Table") "need_lock")
  m_t_need_both : Meth K (He.ga K "Table") "need_both" (He.ma K (He.ga K "Table") "need_both")
  f_t_need_both : DefAt K "need_both" "Table.need_both" s_t_need_both (He.ma K (He.ga K "Table") "need_both")
  m_t_need_free_to : Meth K (He.ga K "Table") "need_free_to" (He.ma K (He.ga K "Table") "need_free_to")
  f_t_need_free_to : DefAt K "need_free_to" "Table.need_free_to" s_t_need_free_to (He.ma K (He.ga K "Table") "need_free_to")
  m_t_take : Meth K (He.ga K "Table") "take" (He.ma K (He.ga K "Table") "take")
  f_t_take : DefAt K "take" "Table.take" s_t_take (He.ma K (He.ga K "Table") "take")
  m_t_ask : Meth K (He.ga K "Table") "ask" (He.ma K (He.ga K "Table") "ask")
  f_t_ask : DefAt K "ask" "Table.ask" s_t_ask (He.ma K (He.ga K "Table") "ask")
  m_t_pass_on : Meth K (He.ga K "Table") "pass_on" (He.ma K (He.ga K "Table") "pass_on")
  f_t_pass_on : DefAt K "pass_on" "Table.pass_on" s_t_pass_on (He.ma K (He.ga K "Table") "pass_on")
  m_t_give : Meth K (He.ga K "Table") "give" (He.ma K (He.ga K "Table") "give")
  f_t_give : DefAt K "give" "Table.give" s_t_give (He.ma K (He.ga K "Table") "give")
  m_t_leave : Meth K (He.ga K "Table") "leave" (He.ma K (He.ga K "Table") "leave")
  f_t_leave : DefAt K "leave" "Table.leave" s_t_leave (He.ma K (He.ga K "Table") "leave")
  m_t_waits : Meth K (He.ga K "Table") "waits" (He.ma K (He.ga K "Table") "waits")
  f_t_waits : DefAt K "waits" "Table.waits" s_t_waits (He.ma K (He.ga K "Table") "waits")
  m_t_held : Meth K (He.ga K "Table") "held" (He.ma K (He.ga K "Table") "held")
  f_t_held : DefAt K "held" "Table.held" s_t_held (He.ma K (He.ga K "Table") "held")
  m_t_wait_number : Meth K (He.ga K "Table") "wait_number" (He.ma K (He.ga K "Table") "wait_number")
  f_t_wait_number : DefAt K "wait_number" "Table.wait_number" s_t_wait_number (He.ma K (He.ga K "Table") "wait_number")
  m_t_holder : Meth K (He.ga K "Table") "holder" (He.ma K (He.ga K "Table") "holder")
  f_t_holder : DefAt K "holder" "Table.holder" s_t_holder (He.ma K (He.ga K "Table") "holder")
  m_t_queue : Meth K (He.ga K "Table") "queue" (He.ma K (He.ga K "Table") "queue")
  f_t_queue : DefAt K "queue" "Table.queue" s_t_queue (He.ma K (He.ga K "Table") "queue")
  m_t_hold_number : Meth K (He.ga K "Table") "hold_number" (He.ma K (He.ga K "Table") "hold_number")
  f_t_hold_number : DefAt K "hold_number" "Table.hold_number" s_t_hold_number (He.ma K (He.ga K "Table") "hold_number")
  m_t_agents : Meth K (He.ga K "Table") "agents" (He.ma K (He.ga K "Table") "agents")
  f_t_agents : DefAt K "agents" "Table.agents" s_t_agents (He.ma K (He.ga K "Table") "agents")
  m_t_locks : Meth K (He.ga K "Table") "locks" (He.ma K (He.ga K "Table") "locks")
  f_t_locks : DefAt K "locks" "Table.locks" s_t_locks (He.ma K (He.ga K "Table") "locks")
  g_next_of : mg "next_of" = some (.ref (He.ga K "next_of"))
  f_next_of : DefAt K "next_of" "next_of" s_next_of (He.ga K "next_of")
  g_chain : mg "chain" = some (.ref (He.ga K "chain"))
  f_chain : DefAt K "chain" "chain" s_chain (He.ga K "chain")
  g_ring_of : mg "ring_of" = some (.ref (He.ga K "ring_of"))
  f_ring_of : DefAt K "ring_of" "ring_of" s_ring_of (He.ga K "ring_of")
  g_rings : mg "rings" = some (.ref (He.ga K "rings"))
  f_rings : DefAt K "rings" "rings" s_rings (He.ga K "rings")
  g_lightest : mg "lightest" = some (.ref (He.ga K "lightest"))
  f_lightest : DefAt K "lightest" "lightest" s_lightest (He.ga K "lightest")
  g_least : mg "least" = some (.ref (He.ga K "least"))
  f_least : DefAt K "least" "least" s_least (He.ga K "least")
  g_Lstart : mg "_law_start" = some (.ref (He.ga K "_law_start"))
  f_Lstart : DefAt K "_law_start" "_law_start" s_Lstart (He.ga K "_law_start")
  g_Ldrawn : mg "_law_drawn" = some (.ref (He.ga K "_law_drawn"))
  f_Ldrawn : DefAt K "_law_drawn" "_law_drawn" s_Ldrawn (He.ga K "_law_drawn")
  g_Lsame : mg "_law_same" = some (.ref (He.ga K "_law_same"))
  f_Lsame : DefAt K "_law_same" "_law_same" s_Lsame (He.ga K "_law_same")
  g_Ltable : mg "_law_table" = some (.ref (He.ga K "_law_table"))
  f_Ltable : DefAt K "_law_table" "_law_table" s_Ltable (He.ga K "_law_table")
  g_Lgot : mg "_law_got" = some (.ref (He.ga K "_law_got"))
  f_Lgot : DefAt K "_law_got" "_law_got" s_Lgot (He.ga K "_law_got")
  g_Lpassed : mg "_law_passed" = some (.ref (He.ga K "_law_passed"))
  f_Lpassed : DefAt K "_law_passed" "_law_passed" s_Lpassed (He.ga K "_law_passed")
  g_Lfault : mg "_law_fault" = some (.ref (He.ga K "_law_fault"))
  f_Lfault : DefAt K "_law_fault" "_law_fault" s_Lfault (He.ga K "_law_fault")
  g_Lask : mg "_law_ask" = some (.ref (He.ga K "_law_ask"))
  f_Lask : DefAt K "_law_ask" "_law_ask" s_Lask (He.ga K "_law_ask")
  g_Lgive : mg "_law_give" = some (.ref (He.ga K "_law_give"))
  f_Lgive : DefAt K "_law_give" "_law_give" s_Lgive (He.ga K "_law_give")
  g_Lheld : mg "_law_held" = some (.ref (He.ga K "_law_held"))
  f_Lheld : DefAt K "_law_held" "_law_held" s_Lheld (He.ga K "_law_held")
  g_Lleave : mg "_law_leave" = some (.ref (He.ga K "_law_leave"))
  f_Lleave : DefAt K "_law_leave" "_law_leave" s_Lleave (He.ga K "_law_leave")
  g_Lis : mg "_law_is" = some (.ref (He.ga K "_law_is"))
  f_Lis : DefAt K "_law_is" "_law_is" s_Lis (He.ga K "_law_is")
  g_Lkind : mg "_law_kind" = some (.ref (He.ga K "_law_kind"))
  f_Lkind : DefAt K "_law_kind" "_law_kind" s_Lkind (He.ga K "_law_kind")
  g_Lfar : mg "_law_far" = some (.ref (He.ga K "_law_far"))
  f_Lfar : DefAt K "_law_far" "_law_far" s_Lfar (He.ga K "_law_far")
  g_Lworks : mg "_law_works" = some (.ref (He.ga K "_law_works"))
  f_Lworks : DefAt K "_law_works" "_law_works" s_Lworks (He.ga K "_law_works")
  g_law : mg "law" = some (.ref (He.ga K "law"))
  f_law : DefAt K "law" "law" s_law (He.ga K "law")
  z_ValueError : mg "ValueError" = none
  z_bool : mg "bool" = none
  z_int : mg "int" = none
  z_isinstance : mg "isinstance" = none
  z_len : mg "len" = none
  z_list : mg "list" = none
  z_max : mg "max" = none
  z_min : mg "min" = none
  z_range : mg "range" = none
  z_sorted : mg "sorted" = none
  z_str : mg "str" = none
  z_sum : mg "sum" = none
  z_tuple : mg "tuple" = none
  i_MOST_AGENTS : ∃ t, mg "MOST_AGENTS" = some (.int 8 t)
  i_MOST_LOCKS : ∃ t, mg "MOST_LOCKS" = some (.int 12 t)
  t___name__ : ∃ t, mg "__name__" = some (.str "law_asklock_k01_tables_and_what_is_none" t)
  wk : WdK K
theorem Txt.tb {K : PySem.W.Frag} {mg : Str → Option Value} (T : Txt K mg) : TbTxt K (tbC K) := ⟨T.c_Table, T.n_owners, T.n_lines, T.n_times, T.n_wants, T.n_rounds⟩
def q0W : Str := (envOfC "_law_works" (defScope s_Lworks) 0 0 .none).qual
abbrev mkD0 {st : Stmt} {ts : List Expr} {p : Arguments} {b : Expr} {s : Scope} {l q r : Pos} (_ : st = .Assign ts (.List [.Lambda p b s l] q) r) : LamD := ⟨p, b, s⟩
abbrev mkD1 {st : Stmt} {f : Expr} {ks : List Keyword} {p : Arguments} {b : Expr} {s : Scope} {l q r : Pos} (_ : st = .Expr (.Call f [.Lambda p b s l] ks q) r) : LamD := ⟨p, b, s⟩
abbrev dW0 : LamD := mkD0 (st := (defBody s_Lworks).getD 0 (.Pass ⟨0, 0, 0, 0⟩)) rfl
abbrev dW1 : LamD := mkD1 (st := (defBody s_Lworks).getD 1 (.Pass ⟨0, 0, 0, 0⟩)) rfl
abbrev dW2 : LamD := mkD1 (st := (defBody s_Lworks).getD 2 (.Pass ⟨0, 0, 0, 0⟩)) rfl
abbrev dW3 : LamD := mkD1 (st := (defBody s_Lworks).getD 3 (.Pass ⟨0, 0, 0, 0⟩)) rfl
abbrev dW4 : LamD := mkD1 (st := (defBody s_Lworks).getD 4 (.Pass ⟨0, 0, 0, 0⟩)) rfl
abbrev dW5 : LamD := mkD1 (st := (defBody s_Lworks).getD 5 (.Pass ⟨0, 0, 0, 0⟩)) rfl
abbrev dW6 : LamD := mkD1 (st := (defBody s_Lworks).getD 6 (.Pass ⟨0, 0, 0, 0⟩)) rfl
abbrev dW7 : LamD := mkD0 (st := (defBody s_Lworks).getD 7 (.Pass ⟨0, 0, 0, 0⟩)) rfl
abbrev dW8 : LamD := mkD1 (st := (defBody s_Lworks).getD 8 (.Pass ⟨0, 0, 0, 0⟩)) rfl
abbrev dW9 : LamD := mkD1 (st := (defBody s_Lworks).getD 9 (.Pass ⟨0, 0, 0, 0⟩)) rfl
abbrev dW10 : LamD := mkD1 (st := (defBody s_Lworks).getD 10 (.Pass ⟨0, 0, 0, 0⟩)) rfl
abbrev dW11 : LamD := mkD1 (st := (defBody s_Lworks).getD 11 (.Pass ⟨0, 0, 0, 0⟩)) rfl
def dsA : List LamD := [dW0, dW1, dW2, dW3, dW4, dW5, dW6]
def dsL : List LamD := [dW7, dW8, dW9, dW10, dW11]
def d_t_init : He.DefD := ⟨("Table", some "__init__"), "__init__", "Table.__init__", defArgs s_t_init, defBody s_t_init, defScope s_t_init, [], []⟩
def d_t_need_agent : He.DefD := ⟨("Table", some "need_agent"), "need_agent", "Table.need_agent", defArgs s_t_need_agent, defBody s_t_need_agent, defScope s_t_need_agent, [], []⟩
def d_t_need_lock : He.DefD := ⟨("Table", some "need_lock"), "need_lock", "Table.need_lock", defArgs s_t_need_lock, defBody s_t_need_lock, defScope s_t_need_lock, [], []⟩
def d_t_need_both : He.DefD := ⟨("Table", some "need_both"), "need_both", "Table.need_both", defArgs s_t_need_both, defBody s_t_need_both, defScope s_t_need_both, [], []⟩
def d_t_need_free_to : He.DefD := ⟨("Table", some "need_free_to"), "need_free_to", "Table.need_free_to", defArgs s_t_need_free_to, defBody s_t_need_free_to, defScope s_t_need_free_to, [], []⟩
def d_t_take : He.DefD := ⟨("Table", some "take"), "take", "Table.take", defArgs s_t_take, defBody s_t_take, defScope s_t_take, [], []⟩
def d_t_ask : He.DefD := ⟨("Table", some "ask"), "ask", "Table.ask", defArgs s_t_ask, defBody s_t_ask, defScope s_t_ask, [], []⟩
def d_t_pass_on : He.DefD := ⟨("Table", some "pass_on"), "pass_on", "Table.pass_on", defArgs s_t_pass_on, defBody s_t_pass_on, defScope s_t_pass_on, [], []⟩
def d_t_give : He.DefD := ⟨("Table", some "give"), "give", "Table.give", defArgs s_t_give, defBody s_t_give, defScope s_t_give, [], []⟩
def d_t_leave : He.DefD := ⟨("Table", some "leave"), "leave", "Table.leave", defArgs s_t_leave, defBody s_t_leave, defScope s_t_leave, [], []⟩
def d_t_waits : He.DefD := ⟨("Table", some "waits"), "waits", "Table.waits", defArgs s_t_waits, defBody s_t_waits, defScope s_t_waits, [], []⟩
def d_t_held : He.DefD := ⟨("Table", some "held"), "held", "Table.held", defArgs s_t_held, defBody s_t_held, defScope s_t_held, [], []⟩
def d_t_wait_number : He.DefD := ⟨("Table", some "wait_number"), "wait_number", "Table.wait_number", defArgs s_t_wait_number, defBody s_t_wait_number, defScope s_t_wait_number, [], []⟩
def d_t_holder : He.DefD := ⟨("Table", some "holder"), "holder", "Table.holder", defArgs s_t_holder, defBody s_t_holder, defScope s_t_holder, [], []⟩
def d_t_queue : He.DefD := ⟨("Table", some "queue"), "queue", "Table.queue", defArgs s_t_queue, defBody s_t_queue, defScope s_t_queue, [], []⟩
def d_t_hold_number : He.DefD := ⟨("Table", some "hold_number"), "hold_number", "Table.hold_number", defArgs s_t_hold_number, defBody s_t_hold_number, defScope s_t_hold_number, [], []⟩
def d_t_agents : He.DefD := ⟨("Table", some "agents"), "agents", "Table.agents", defArgs s_t_agents, defBody s_t_agents, defScope s_t_agents, [], []⟩
def d_t_locks : He.DefD := ⟨("Table", some "locks"), "locks", "Table.locks", defArgs s_t_locks, defBody s_t_locks, defScope s_t_locks, [], []⟩
def d_next_of : He.DefD := ⟨("next_of", none), "next_of", "next_of", defArgs s_next_of, defBody s_next_of, defScope s_next_of, [], []⟩
def d_chain : He.DefD := ⟨("chain", none), "chain", "chain", defArgs s_chain, defBody s_chain, defScope s_chain, [], []⟩
def d_ring_of : He.DefD := ⟨("ring_of", none), "ring_of", "ring_of", defArgs s_ring_of, defBody s_ring_of, defScope s_ring_of, [], []⟩
def d_rings : He.DefD := ⟨("rings", none), "rings", "rings", defArgs s_rings, defBody s_rings, defScope s_rings, [], []⟩
def d_lightest : He.DefD := ⟨("lightest", none), "lightest", "lightest", defArgs s_lightest, defBody s_lightest, defScope s_lightest, [], []⟩
def d_least : He.DefD := ⟨("least", none), "least", "least", defArgs s_least, defBody s_least, defScope s_least, [], []⟩
def d_Lstart : He.DefD := ⟨("_law_start", none), "_law_start", "_law_start", defArgs s_Lstart, defBody s_Lstart, defScope s_Lstart, [], []⟩
def d_Ldrawn : He.DefD := ⟨("_law_drawn", none), "_law_drawn", "_law_drawn", defArgs s_Ldrawn, defBody s_Ldrawn, defScope s_Ldrawn, [], []⟩
def d_Lsame : He.DefD := ⟨("_law_same", none), "_law_same", "_law_same", defArgs s_Lsame, defBody s_Lsame, defScope s_Lsame, [], []⟩
def d_Ltable : He.DefD := ⟨("_law_table", none), "_law_table", "_law_table", defArgs s_Ltable, defBody s_Ltable, defScope s_Ltable, [], []⟩
def d_Lgot : He.DefD := ⟨("_law_got", none), "_law_got", "_law_got", defArgs s_Lgot, defBody s_Lgot, defScope s_Lgot, [], []⟩
def d_Lpassed : He.DefD := ⟨("_law_passed", none), "_law_passed", "_law_passed", defArgs s_Lpassed, defBody s_Lpassed, defScope s_Lpassed, [], []⟩
def d_Lfault : He.DefD := ⟨("_law_fault", none), "_law_fault", "_law_fault", defArgs s_Lfault, defBody s_Lfault, defScope s_Lfault, [], []⟩
def d_Lask : He.DefD := ⟨("_law_ask", none), "_law_ask", "_law_ask", defArgs s_Lask, defBody s_Lask, defScope s_Lask, [], []⟩
def d_Lgive : He.DefD := ⟨("_law_give", none), "_law_give", "_law_give", defArgs s_Lgive, defBody s_Lgive, defScope s_Lgive, [], []⟩
def d_Lheld : He.DefD := ⟨("_law_held", none), "_law_held", "_law_held", defArgs s_Lheld, defBody s_Lheld, defScope s_Lheld, [], []⟩
def d_Lleave : He.DefD := ⟨("_law_leave", none), "_law_leave", "_law_leave", defArgs s_Lleave, defBody s_Lleave, defScope s_Lleave, [], []⟩
def d_Lis : He.DefD := ⟨("_law_is", none), "_law_is", "_law_is", defArgs s_Lis, defBody s_Lis, defScope s_Lis, [], []⟩
def d_Lkind : He.DefD := ⟨("_law_kind", none), "_law_kind", "_law_kind", defArgs s_Lkind, defBody s_Lkind, defScope s_Lkind, [], []⟩
def d_Lfar : He.DefD := ⟨("_law_far", none), "_law_far", "_law_far", defArgs s_Lfar, defBody s_Lfar, defScope s_Lfar, [], []⟩
def d_Lworks : He.DefD := ⟨("_law_works", none), "_law_works", "_law_works", defArgs s_Lworks, defBody s_Lworks, defScope s_Lworks, [], []⟩
def d_law : He.DefD := ⟨("law", none), "law", "law", defArgs s_law, defBody s_law, defScope s_law, [], []⟩
def fn : List He.DefD := [d_t_init, d_t_need_agent, d_t_need_lock, d_t_need_both, d_t_need_free_to, d_t_take, d_t_ask, d_t_pass_on, d_t_give, d_t_leave, d_t_waits, d_t_held, d_t_wait_number, d_t_holder, d_t_queue, d_t_hold_number, d_t_agents, d_t_locks, d_next_of, d_chain, d_ring_of, d_rings, d_lightest, d_least, d_Lstart, d_Ldrawn, d_Lsame, d_Ltable, d_Lgot, d_Lpassed, d_Lfault, d_Lask, d_Lgive, d_Lheld, d_Lleave, d_Lis, d_Lkind, d_Lfar, d_Lworks, d_law]
def fa : List He.Fa := [.glo "LockError", .exc "LockError", .glo "NoTable", .exc "NoTable", .glo "NoHall", .exc "NoHall", .glo "NoAgent", .exc "NoAgent", .glo "NoLock", .exc "NoLock", .glo "NoHouse", .exc "NoHouse", .glo "NoLetter", .exc "NoLetter", .glo "Stopped", .exc "Stopped", .glo "Waits", .exc "Waits", .glo "Holds", .exc "Holds", .glo "NotHeld", .exc "NotHeld", .glo "Up", .exc "Up", .glo "Table", .cls "Table", .mkr "Table", .noat "Table" "owners", .noat "Table" "lines", .noat "Table" "times", .noat "Table" "wants", .noat "Table" "rounds", .meth "Table" "need_agent", .meth "Table" "need_lock", .meth "Table" "need_both", .meth "Table" "need_free_to", .meth "Table" "take", .meth "Table" "ask", .meth "Table" "pass_on", .meth "Table" "give", .meth "Table" "leave", .meth "Table" "waits", .meth "Table" "held", .meth "Table" "wait_number", .meth "Table" "holder", .meth "Table" "queue", .meth "Table" "hold_number", .meth "Table" "agents", .meth "Table" "locks", .glo "next_of", .glo "chain", .glo "ring_of", .glo "rings", .glo "lightest", .glo "least", .glo "_law_start", .glo "_law_drawn", .glo "_law_same", .glo "_law_table", .glo "_law_got", .glo "_law_passed", .glo "_law_fault", .glo "_law_ask", .glo "_law_give", .glo "_law_held", .glo "_law_leave", .glo "_law_is", .glo "_law_kind", .glo "_law_far", .glo "_law_works", .glo "law", .free "ValueError", .free "bool", .free "int", .free "isinstance", .free "len", .free "list", .free "max", .free "min", .free "range", .free "sorted", .free "str", .free "sum", .free "tuple", .int "MOST_AGENTS" 8, .int "MOST_LOCKS" 12, .str "__name__" "law_asklock_k01_tables_and_what_is_none"]
def loose0 : List Str := ["_wall", "__name__", "LockError", "NoTable", "NoHall", "NoAgent", "NoLock", "NoHouse", "NoLetter", "Stopped", "Waits", "Holds", "NotHeld", "Up", "MOST_AGENTS", "MOST_LOCKS", "Table", "next_of", "chain", "ring_of", "rings", "lightest", "least", "_law_start", "_law_drawn", "_law_same", "_law_table", "_law_got", "_law_passed", "_law_fault"]
def loose30 : List Str := ["_law_ask", "_law_give", "_law_held", "_law_leave", "_law_is", "_law_kind", "_law_far", "_law_works"]
def loose : List Str := loose0 ++ loose30
def ex (K : PySem.W.Frag) : Bool := decide ((tf.map fun d => (He.cT K d).2).Nodup) && exB K
theorem ex_ok {K : PySem.W.Frag} (h : ex K = true) : decide ((tf.map fun d => (He.cT K d).2).Nodup) = true ∧ exB K = true := Bool.and_eq_true_iff.mp h
abbrev RR : PySem.W.OpenRow := PySem.W.OpenLaw.row PySem.Challenge.rw_asklock_k01_tables_and_what_is_none
abbrev hk : PySem.W.Hook := He.hookX 4 fa fn [] tf ex
def ob (s : PySem.W.SharedT) : He.AlX := He.obsX 4 fa fn [] tf ex (HandSHeadRun.getT s)
theorem ob_eq (s : PySem.W.SharedT) : ob s = hk.obs s.abs := He.obsX_eq (HandSHeadRun.getT_eq s)
noncomputable section
open PySem PySem.W PySem.Calls PyProof.Rows HandSHeadRun
theorem run1 (w : World) (os : OsState) : (endF (stepQ (denQ tabQ) RR.prog w) 12000 RR.prog w os).map (fun s => (looksF RR.prog (boot_heap w.params) s.abs, seenQ (view RR.prog [41]) loose (importedModules RR.prog.main.body) (fun s => xlAt (view RR.prog [41]) [] s && recOk RR.toRowW.records s) s.abs)) = some (true, openGood (view RR.prog [41]) loose) := by
  kernel_rfl
theorem run2 (w : World) (os : OsState) : (endF (stepQ (denQ tabQ) RR.prog w) 12000 RR.prog w os).map (fun s => ob s) = some (hk.val w) := by
  kernel_rfl
theorem two {α β γ δ : Type} {x : Option α} {f1 : α → β} {f2 : α → γ} {g : α → δ} {b : β} {c : γ} {d : δ} (h1 : x.map (fun s => (f1 s, f2 s)) = some (b, c)) (h2 : x.map (fun s => g s) = some d) : x.map (fun s => (f1 s, f2 s, g s)) = some (b, c, d) := by
  cases x with
  | none => cases h1
  | some s =>
    have e1 : (f1 s, f2 s) = (b, c) := Option.some.inj h1
    have e3 : f1 s = b := congrArg Prod.fst e1
    have e4 : f2 s = c := congrArg Prod.snd e1
    have e2 : g s = d := Option.some.inj h2
    show some (f1 s, f2 s, g s) = _
    rw [e2, e3, e4]
theorem run (w : World) : HandSHeadRun.RunEq RR (PySem.W.view RR.prog [41]) hk ob 12000 loose w := by
  unfold HandSHeadRun.RunEq
  intro os
  exact two (run1 w os) (run2 w os)
end
theorem txt_of {K : PySem.W.Frag} {h : Heap} {mg : Str → Option Value} (X : K.In h) (G : h.Ns mainGlobals mg) (c : He.SaysD fa fn K) (e : ex K = true) : Txt K mg := ⟨
  (of_decide_eq_true (ex_ok e).1),
  (let z := He.exc_ok (c.fact 1 (f := .exc "LockError") rfl); ⟨He.glo_ok X G (c.fact 0 (f := .glo "LockError") rfl), z.1, z.2.1, z.2.2.1, z.2.2.2⟩),
  (let z := He.exc_ok (c.fact 3 (f := .exc "NoTable") rfl); ⟨He.glo_ok X G (c.fact 2 (f := .glo "NoTable") rfl), z.1, z.2.1, z.2.2.1, z.2.2.2⟩),
  (let z := He.exc_ok (c.fact 5 (f := .exc "NoHall") rfl); ⟨He.glo_ok X G (c.fact 4 (f := .glo "NoHall") rfl), z.1, z.2.1, z.2.2.1, z.2.2.2⟩),
  (let z := He.exc_ok (c.fact 7 (f := .exc "NoAgent") rfl); ⟨He.glo_ok X G (c.fact 6 (f := .glo "NoAgent") rfl), z.1, z.2.1, z.2.2.1, z.2.2.2⟩),
  (let z := He.exc_ok (c.fact 9 (f := .exc "NoLock") rfl); ⟨He.glo_ok X G (c.fact 8 (f := .glo "NoLock") rfl), z.1, z.2.1, z.2.2.1, z.2.2.2⟩),
  (let z := He.exc_ok (c.fact 11 (f := .exc "NoHouse") rfl); ⟨He.glo_ok X G (c.fact 10 (f := .glo "NoHouse") rfl), z.1, z.2.1, z.2.2.1, z.2.2.2⟩),
  (let z := He.exc_ok (c.fact 13 (f := .exc "NoLetter") rfl); ⟨He.glo_ok X G (c.fact 12 (f := .glo "NoLetter") rfl), z.1, z.2.1, z.2.2.1, z.2.2.2⟩),
  (let z := He.exc_ok (c.fact 15 (f := .exc "Stopped") rfl); ⟨He.glo_ok X G (c.fact 14 (f := .glo "Stopped") rfl), z.1, z.2.1, z.2.2.1, z.2.2.2⟩),
  (let z := He.exc_ok (c.fact 17 (f := .exc "Waits") rfl); ⟨He.glo_ok X G (c.fact 16 (f := .glo "Waits") rfl), z.1, z.2.1, z.2.2.1, z.2.2.2⟩),
  (let z := He.exc_ok (c.fact 19 (f := .exc "Holds") rfl); ⟨He.glo_ok X G (c.fact 18 (f := .glo "Holds") rfl), z.1, z.2.1, z.2.2.1, z.2.2.2⟩),
  (let z := He.exc_ok (c.fact 21 (f := .exc "NotHeld") rfl); ⟨He.glo_ok X G (c.fact 20 (f := .glo "NotHeld") rfl), z.1, z.2.1, z.2.2.1, z.2.2.2⟩),
  (let z := He.exc_ok (c.fact 23 (f := .exc "Up") rfl); ⟨He.glo_ok X G (c.fact 22 (f := .glo "Up") rfl), z.1, z.2.1, z.2.2.1, z.2.2.2⟩),
  (He.glo_ok X G (c.fact 24 (f := .glo "Table") rfl)),
  (He.cls_ok (c.fact 25 (f := .cls "Table") rfl)),
  (He.mkr_ok (c.fact 26 (f := .mkr "Table") rfl)),
  (He.noat_ok (c.fact 27 (f := .noat "Table" "owners") rfl)),
  (He.noat_ok (c.fact 28 (f := .noat "Table" "lines") rfl)),
  (He.noat_ok (c.fact 29 (f := .noat "Table" "times") rfl)),
  (He.noat_ok (c.fact 30 (f := .noat "Table" "wants") rfl)),
  (He.noat_ok (c.fact 31 (f := .noat "Table" "rounds") rfl)),
  (c.def_ 0 (d := d_t_init) rfl),
  (He.meth_ok (c.fact 32 (f := .meth "Table" "need_agent") rfl)),
  (c.def_ 1 (d := d_t_need_agent) rfl),
  (He.meth_ok (c.fact 33 (f := .meth "Table" "need_lock") rfl)),
  (c.def_ 2 (d := d_t_need_lock) rfl),
  (He.meth_ok (c.fact 34 (f := .meth "Table" "need_both") rfl)),
  (c.def_ 3 (d := d_t_need_both) rfl),
  (He.meth_ok (c.fact 35 (f := .meth "Table" "need_free_to") rfl)),
  (c.def_ 4 (d := d_t_need_free_to) rfl),
  (He.meth_ok (c.fact 36 (f := .meth "Table" "take") rfl)),
  (c.def_ 5 (d := d_t_take) rfl),
  (He.meth_ok (c.fact 37 (f := .meth "Table" "ask") rfl)),
  (c.def_ 6 (d := d_t_ask) rfl),
  (He.meth_ok (c.fact 38 (f := .meth "Table" "pass_on") rfl)),
  (c.def_ 7 (d := d_t_pass_on) rfl),
  (He.meth_ok (c.fact 39 (f := .meth "Table" "give") rfl)),
  (c.def_ 8 (d := d_t_give) rfl),
  (He.meth_ok (c.fact 40 (f := .meth "Table" "leave") rfl)),
  (c.def_ 9 (d := d_t_leave) rfl),
  (He.meth_ok (c.fact 41 (f := .meth "Table" "waits") rfl)),
  (c.def_ 10 (d := d_t_waits) rfl),
  (He.meth_ok (c.fact 42 (f := .meth "Table" "held") rfl)),
  (c.def_ 11 (d := d_t_held) rfl),
  (He.meth_ok (c.fact 43 (f := .meth "Table" "wait_number") rfl)),
  (c.def_ 12 (d := d_t_wait_number) rfl),
  (He.meth_ok (c.fact 44 (f := .meth "Table" "holder") rfl)),
  (c.def_ 13 (d := d_t_holder) rfl),
  (He.meth_ok (c.fact 45 (f := .meth "Table" "queue") rfl)),
  (c.def_ 14 (d := d_t_queue) rfl),
  (He.meth_ok (c.fact 46 (f := .meth "Table" "hold_number") rfl)),
  (c.def_ 15 (d := d_t_hold_number) rfl),
  (He.meth_ok (c.fact 47 (f := .meth "Table" "agents") rfl)),
  (c.def_ 16 (d := d_t_agents) rfl),
  (He.meth_ok (c.fact 48 (f := .meth "Table" "locks") rfl)),
  (c.def_ 17 (d := d_t_locks) rfl),
  (He.glo_ok X G (c.fact 49 (f := .glo "next_of") rfl)),
  (c.def_ 18 (d := d_next_of) rfl),
  (He.glo_ok X G (c.fact 50 (f := .glo "chain") rfl)),
  (c.def_ 19 (d := d_chain) rfl),
  (He.glo_ok X G (c.fact 51 (f := .glo "ring_of") rfl)),
  (c.def_ 20 (d := d_ring_of) rfl),
  (He.glo_ok X G (c.fact 52 (f := .glo "rings") rfl)),
  (c.def_ 21 (d := d_rings) rfl),
  (He.glo_ok X G (c.fact 53 (f := .glo "lightest") rfl)),
  (c.def_ 22 (d := d_lightest) rfl),
  (He.glo_ok X G (c.fact 54 (f := .glo "least") rfl)),
  (c.def_ 23 (d := d_least) rfl),
  (He.glo_ok X G (c.fact 55 (f := .glo "_law_start") rfl)),
  (c.def_ 24 (d := d_Lstart) rfl),
  (He.glo_ok X G (c.fact 56 (f := .glo "_law_drawn") rfl)),
  (c.def_ 25 (d := d_Ldrawn) rfl),
  (He.glo_ok X G (c.fact 57 (f := .glo "_law_same") rfl)),
  (c.def_ 26 (d := d_Lsame) rfl),
  (He.glo_ok X G (c.fact 58 (f := .glo "_law_table") rfl)),
  (c.def_ 27 (d := d_Ltable) rfl),
  (He.glo_ok X G (c.fact 59 (f := .glo "_law_got") rfl)),
  (c.def_ 28 (d := d_Lgot) rfl),
  (He.glo_ok X G (c.fact 60 (f := .glo "_law_passed") rfl)),
  (c.def_ 29 (d := d_Lpassed) rfl),
  (He.glo_ok X G (c.fact 61 (f := .glo "_law_fault") rfl)),
  (c.def_ 30 (d := d_Lfault) rfl),
  (He.glo_ok X G (c.fact 62 (f := .glo "_law_ask") rfl)),
  (c.def_ 31 (d := d_Lask) rfl),
  (He.glo_ok X G (c.fact 63 (f := .glo "_law_give") rfl)),
  (c.def_ 32 (d := d_Lgive) rfl),
  (He.glo_ok X G (c.fact 64 (f := .glo "_law_held") rfl)),
  (c.def_ 33 (d := d_Lheld) rfl),
  (He.glo_ok X G (c.fact 65 (f := .glo "_law_leave") rfl)),
  (c.def_ 34 (d := d_Lleave) rfl),
  (He.glo_ok X G (c.fact 66 (f := .glo "_law_is") rfl)),
  (c.def_ 35 (d := d_Lis) rfl),
  (He.glo_ok X G (c.fact 67 (f := .glo "_law_kind") rfl)),
  (c.def_ 36 (d := d_Lkind) rfl),
  (He.glo_ok X G (c.fact 68 (f := .glo "_law_far") rfl)),
  (c.def_ 37 (d := d_Lfar) rfl),
  (He.glo_ok X G (c.fact 69 (f := .glo "_law_works") rfl)),
  (c.def_ 38 (d := d_Lworks) rfl),
  (He.glo_ok X G (c.fact 70 (f := .glo "law") rfl)),
  (c.def_ 39 (d := d_law) rfl),
  (He.free_ok X G (c.fact 71 (f := .free "ValueError") rfl)),
  (He.free_ok X G (c.fact 72 (f := .free "bool") rfl)),
  (He.free_ok X G (c.fact 73 (f := .free "int") rfl)),
  (He.free_ok X G (c.fact 74 (f := .free "isinstance") rfl)),
  (He.free_ok X G (c.fact 75 (f := .free "len") rfl)),
  (He.free_ok X G (c.fact 76 (f := .free "list") rfl)),
  (He.free_ok X G (c.fact 77 (f := .free "max") rfl)),
  (He.free_ok X G (c.fact 78 (f := .free "min") rfl)),
  (He.free_ok X G (c.fact 79 (f := .free "range") rfl)),
  (He.free_ok X G (c.fact 80 (f := .free "sorted") rfl)),
  (He.free_ok X G (c.fact 81 (f := .free "str") rfl)),
  (He.free_ok X G (c.fact 82 (f := .free "sum") rfl)),
  (He.free_ok X G (c.fact 83 (f := .free "tuple") rfl)),
  (He.int_ok X G (c.fact 84 (f := .int "MOST_AGENTS" 8) rfl)),
  (He.int_ok X G (c.fact 85 (f := .int "MOST_LOCKS" 12) rfl)),
  (He.str_ok X G (c.fact 86 (f := .str "__name__" "law_asklock_k01_tables_and_what_is_none") rfl)),
  (wdK_of (ex_ok e).2)⟩

/-! ### the steps by themselves -/
local macro_rules | `(tactic| walk_at "sx1") => `(tactic| first
  | with_reducible refine stp ?_
  | with_reducible refine r_var rfl ?_)
local macro_rules | `(tactic| walk_at "sx") => `(tactic| repeat (walk_at "sx1"))

section
variable {P : Program} {w : World} {K : PySem.W.Frag} {mg : Str → Option Value} {base : Heap}
theorem sc_Lsame : FnScope ["_law_found", "_law_due", "_law_k"] ["_law_found", "_law_due"] (defScope s_Lsame) := ⟨rfl, rfl, rfl, by decide +kernel, rfl, by decide +kernel, by decide +kernel⟩
theorem step_Lsame (TX : Txt K mg) (k n : Nat) (ih : OkF P w K mg base k (He.ga K "_law_same") ["_law_found", "_law_due"] (sp_Lsame n)) : OkF P w K mg base (k + 1) (He.ga K "_law_same") ["_law_found", "_law_due"] (sp_Lsame (n + 1)) := by
  obtain ⟨⟨fd_Lsame, G_Lsame, b_Lsame⟩, k_Lsame⟩ := ih
  refine okF TX.f_Lsame sc_Lsame (fun _ _ _ _ _ _ us hl => match us, hl with | [_, _], _ => rfl) (fun vs H Q E h => ?_) (fun cdv A outer s H vs Q E hr h => ?_)
  · obtain ⟨_, _, rfl, _⟩ := h
    rfl
  · obtain ⟨x, y, rfl, h⟩ := h
    refine ⟨_, (pss_cons (ps_if (pt_val (pe_callB (k_isiT (K := K) rfl) (by rfl) TX.z_isinstance (by decide +kernel) (pa_cons (pv 1) (pa_cons (pe_tup (pa_cons (pe_bltn (v := .ty "tuple") (by rfl) TX.z_tuple (by decide +kernel) rfl) (pa_cons (pe_bltn (v := .ty "list") (by rfl) TX.z_list (by decide +kernel) rfl) pa_nil))) pa_nil)))) (pss_cons (ps_if (PW.pt (pw_or (pt_not (pt_val (pe_callB (k_isiT (K := K) rfl) (by rfl) TX.z_isinstance (by decide +kernel) (pa_cons (pv 0) (pa_cons (pe_tup (pa_cons (pe_bltn (v := .ty "tuple") (by rfl) TX.z_tuple (by decide +kernel) rfl) (pa_cons (pe_bltn (v := .ty "list") (by rfl) TX.z_list (by decide +kernel) rfl) pa_nil))) pa_nil))))) (pw_or1 (pt_cmpR (op_ne) (pe_callB (k_isi (K := K) rfl) (by rfl) TX.z_isinstance (by decide +kernel) (pa_cons (pv 0) (pa_cons (pe_bltn (v := .ty "list") (by rfl) TX.z_list (by decide +kernel) rfl) pa_nil))) (pe_callB (k_isi (K := K) rfl) (by rfl) TX.z_isinstance (by decide +kernel) (pa_cons (pv 1) (pa_cons (pe_bltn (v := .ty "list") (by rfl) TX.z_list (by decide +kernel) rfl) pa_nil))) (nomark _))))) (pss_one (ps_ret pe_bl)) pss_nil) (pss_cons (ps_if (pt_cmpR (op_ne) (pe_callB (k_len (K := K) rfl) (by rfl) TX.z_len (by decide +kernel) (pa_cons (pv 0) pa_nil)) (pe_callB (k_len (K := K) rfl) (by rfl) TX.z_len (by decide +kernel) (pa_cons (pv 1) pa_nil)) (nomark _)) (pss_one (ps_ret pe_bl)) pss_nil) (pss_one (ps_ret (pe_cmpR (k_eqD (K := K) rfl hr.units) (pe_lc (own := [("_law_k", 2)]) (g := gName 2) rfl sc_Lsame.nd (pi_range1 (by rfl) TX.z_range (pa_cons (pe_callB (k_len (K := K) rfl) (by rfl) TX.z_len (by decide +kernel) (pa_cons (pv 1) pa_nil)) pa_nil)) (blkOk_by (N := ["_law_found", "_law_due", "_law_k"]) (sc := defScope s_Lsame) (by decide +kernel)) (fun _ _ _ _ _ => pg_name (i := 2) sc_Lsame.nd rfl (Or.inl rfl)) (fun _ _ _ _ _ => by exact (pts_one (pt_not (pt_val (pe_call G_Lsame hr (by rfl) TX.g_Lsame k_Lsame b_Lsame .nil passL (pa_cons (pe_ix (k_ixq (K := K) rfl) (pv 0) (pv 2) (fun _ _ => rfl)) (pa_cons (pe_ix (k_ixq (K := K) rfl) (pv 1) (pv 2) (fun _ _ => rfl)) pa_nil))))))) (fun _ _ _ _ _ => by exact (pv 2))) (pe_lst pa_nil) (nomark _)))))) pss_nil) (pss_cons (ps_if (pt_cmpR (op_isN) (pv 1) pe_non (nomark _)) (pss_one (ps_ret (pe_cmpR (op_isN) (pv 0) pe_non (nomark _)))) pss_nil) (pss_cons (ps_if (pt_val (pe_callB (k_isi (K := K) rfl) (by rfl) TX.z_isinstance (by decide +kernel) (pa_cons (pv 1) (pa_cons (pe_bltn (v := .ty "str") (by rfl) TX.z_str (by decide +kernel) rfl) pa_nil)))) (pss_one (ps_ret (pe_and (pe_callB (k_isi (K := K) rfl) (by rfl) TX.z_isinstance (by decide +kernel) (pa_cons (pv 0) (pa_cons (pe_bltn (v := .ty "str") (by rfl) TX.z_str (by decide +kernel) rfl) pa_nil))) (pe_one (pe_cmpR (op_eq) (pv 0) (pv 1) (nomark _)))))) pss_nil) (pss_cons (ps_if (PW.pt (pw_or (pt_val (pe_callB (k_isi (K := K) rfl) (by rfl) TX.z_isinstance (by decide +kernel) (pa_cons (pv 1) (pa_cons (pe_bltn (v := .ty "bool") (by rfl) TX.z_bool (by decide +kernel) rfl) pa_nil)))) (pw_or1 (pt_val (pe_callB (k_isi (K := K) rfl) (by rfl) TX.z_isinstance (by decide +kernel) (pa_cons (pv 0) (pa_cons (pe_bltn (v := .ty "bool") (by rfl) TX.z_bool (by decide +kernel) rfl) pa_nil))))))) (pss_one (ps_ret (pe_and (pe_callB (k_isi (K := K) rfl) (by rfl) TX.z_isinstance (by decide +kernel) (pa_cons (pv 1) (pa_cons (pe_bltn (v := .ty "bool") (by rfl) TX.z_bool (by decide +kernel) rfl) pa_nil))) (pe_and (pe_callB (k_isi (K := K) rfl) (by rfl) TX.z_isinstance (by decide +kernel) (pa_cons (pv 0) (pa_cons (pe_bltn (v := .ty "bool") (by rfl) TX.z_bool (by decide +kernel) rfl) pa_nil))) (pe_one (pe_cmpR (op_eq) (pv 0) (pv 1) (nomark _))))))) pss_nil) (pss_one (ps_ret (pe_and (pe_callB (k_isi (K := K) rfl) (by rfl) TX.z_isinstance (by decide +kernel) (pa_cons (pv 0) (pa_cons (pe_bltn (v := .ty "int") (by rfl) TX.z_int (by decide +kernel) rfl) pa_nil))) (pe_one (pe_cmpR (op_eq) (pv 0) (pv 1) (nomark _)))))))))), ?_⟩
    refine r_st (σ' := [some x, some y, none]) rfl ?_
    try dsimp only [cxOf]
    obtain ⟨d, hx, hy, hn, hq⟩ := h
    walk_at "sx"
    refine r_newT (by show 2 ≤ 2000; decide) (fun tp H1 htp etp f1 => ?_)
    walk_at "sx"
    have tx := (hx.fr f1).ty (K := K)
    have ty := (hy.fr f1).ty (K := K)
    have seq : ∀ (ds : List PyData) (xs ys : List V), DdAll H xs ds → DdAll H ys ds → PyData.depthAll ds < n → ds.length ≤ 2000 → (∃ a b, x = .ref a ∧ y = .ref b ∧ ((H a = some (.tup xs) ∧ H b = some (.tup ys)) ∨ (H a = some (.lst xs) ∧ H b = some (.lst ys)))) →
        ∀ (D : Ends), D.rt = Q → ∀ H2, Fr No H H2 → tSeq (tIfS (tTest (tOp rNe (tCB (rLenQ K) (tCons (tVar 0) tNil)) (tCB (rLenQ K) (tCons (tVar 1) tNil)))) (tRet (tC (V.bl false))) tNext)
          (tRet (tOp (rEqD K) (tLc (iRng1 (tCons (tCB (rLenQ K) (tCons (tVar 1) tNil)) tNil)) (gName 2) (tNot (tB (tCall (sp_Lsame n) [] E0 (tCons (tOp (rIxQ K) (tVar 0) (tVar 2)) (tCons (tOp (rIxQ K) (tVar 1) (tVar 2)) tNil))))) (tVar 2) [2]) (tLst tNil)))
          D [some x, some y, none] H2 := by
      intro ds xs ys hxs hys hdep hlen ⟨a, b, ea, eb, hab⟩ D hD H2 f2
      subst hD
      subst ea eb
      have hab2 : (H2 a = some (.tup xs) ∧ H2 b = some (.tup ys)) ∨ (H2 a = some (.lst xs) ∧ H2 b = some (.lst ys)) := hab.elim (fun q => .inl ⟨f2.tup _ _ q.1, f2.tup _ _ q.2⟩) (fun q => .inr ⟨f2.lst q.1, f2.lst q.2⟩)
      have la : ∀ Q : VK, Q (.int (ds.length : Int)) H2 → rLenQ K [.ref a] H2 Q := fun Q q => by
        have e := hxs.len
        rcases hab2 with z | z
        · exact r_lenT z.1 (by rw [e]; exact q)
        · exact r_lenS z.1 (by rw [e]; exact q)
      have lb : ∀ Q : VK, Q (.int (ds.length : Int)) H2 → rLenQ K [.ref b] H2 Q := fun Q q => by
        have e := hys.len
        rcases hab2 with z | z
        · exact r_lenT z.2 (by rw [e]; exact q)
        · exact r_lenS z.2 (by rw [e]; exact q)
      walk_at "sx"
      refine la _ ?_
      walk_at "sx"
      refine lb _ ?_
      walk_at "sx"
      refine r_ne rfl ?_
      walk_at "sx"
      refine r_decN (fun g => absurd rfl g) (fun _ => ?_)
      walk_at "sx"
      refine r_lcR (n := ds.length) (fun _ => false) (fun _ => .none) hlen (fun Q q => by walk_at "sx"; exact lb _ q) (fun _ => rfl) (fun i H3 hi f3 Q' q' => ?_) (fun i H3 hi hf f3 => by cases hf) (fun p H3 hp hl f3 => ?_)
      · obtain ⟨v, dv, e1, e2, e3⟩ := hxs.at hi
        obtain ⟨u, du, e4, e5, e6⟩ := hys.at hi
        rw [e2] at e5
        cases e5
        have hab3 : (H3 a = some (.tup xs) ∧ H3 b = some (.tup ys)) ∨ (H3 a = some (.lst xs) ∧ H3 b = some (.lst ys)) := hab2.elim (fun q => .inl ⟨f3.tup _ _ q.1, f3.tup _ _ q.2⟩) (fun q => .inr ⟨f3.lst q.1, f3.lst q.2⟩)
        have ia : ∀ Q : VK, Q v H3 → rIxQ K (.ref a) (.int (i : Int)) H3 Q := fun Q q => hab3.elim (fun z => .inr ⟨a, _, _, _, rfl, rfl, SqT.of z.1, atI_nat e1, q⟩) (fun z => .inl ⟨a, _, _, _, rfl, rfl, SqL.of z.1, atI_nat e1, q⟩)
        have ib : ∀ Q : VK, Q u H3 → rIxQ K (.ref b) (.int (i : Int)) H3 Q := fun Q q => hab3.elim (fun z => .inr ⟨b, _, _, _, rfl, rfl, SqT.of z.2, atI_nat e4, q⟩) (fun z => .inl ⟨b, _, _, _, rfl, rfl, SqL.of z.2, atI_nat e4, q⟩)
        walk_at "sx"
        refine ia _ ?_
        walk_at "sx"
        refine ib _ ?_
        walk_at "sx"
        have f4 := f2.trans f3
        refine ⟨dv, e3.fr f4, e6.fr f4, Nat.lt_of_le_of_lt (depth_at e2) hdep, fun H4 f5 => ?_⟩
        walk_at "sx"
        exact q' H4 f5
      · have et : turns (fun _ => false) (fun _ => PyData.none) ds.length = [] := by unfold turns; simp
        rw [et] at hl
        walk_at "sx"
        refine r_newL (Nat.zero_le _) (fun p2 H4 hp2 e4 f4 => ?_)
        refine r_eqNil (hl.fr f4 (fun z => z)).dp CmpAll.nil e4 ?_
        exact hq H4 ((f2.trans f3).trans f4)
    cases hy with
    | non =>
      cases hx
      refine r_isi2 (a := "NoneType") false false false ty etp (by decide +kernel) (by decide +kernel) rfl ?_
      walk_at "sx"
      refine ⟨rfl, ?_⟩
      walk_at "sx"
      refine r_dec (fun _ => ?_) (fun g => absurd rfl g)
      walk_at "sx"
      exact ⟨rfl, hq _ f1⟩
    | bl b =>
      cases hx
      refine r_isi2 (a := "bool") false false false ty etp (by decide +kernel) (by decide +kernel) rfl ?_
      walk_at "sx"
      refine ⟨rfl, ?_⟩
      walk_at "sx"
      refine r_dec (fun g => nomatch g) (fun _ => ?_)
      walk_at "sx"
      refine r_isi (a := "bool") false ty (by decide +kernel) ?_
      walk_at "sx"
      refine r_isi (a := "bool") true ty (by decide +kernel) ?_
      walk_at "sx"
      refine r_isi (a := "bool") true ty (by decide +kernel) ?_
      walk_at "sx"
      refine r_isi (a := "bool") true tx (by decide +kernel) ?_
      walk_at "sx"
      refine r_eq rfl ?_
      rw [decide_eq_true rfl]
      exact hq _ f1
    | int i =>
      cases hx
      refine r_isi2 (a := "int") false false false ty etp (by decide +kernel) (by decide +kernel) rfl ?_
      walk_at "sx"
      refine ⟨rfl, ?_⟩
      walk_at "sx"
      refine r_dec (fun g => nomatch g) (fun _ => ?_)
      walk_at "sx"
      refine r_isi (a := "int") false ty (by decide +kernel) ?_
      walk_at "sx"
      refine r_isi (a := "int") false ty (by decide +kernel) ?_
      walk_at "sx"
      refine r_isi (a := "int") false tx (by decide +kernel) ?_
      walk_at "sx"
      refine r_isi (a := "int") true tx (by decide +kernel) ?_
      walk_at "sx"
      refine r_eq rfl ?_
      rw [decide_eq_true rfl]
      exact hq _ f1
    | str s =>
      cases hx
      refine r_isi2 (a := "str") false false false ty etp (by decide +kernel) (by decide +kernel) rfl ?_
      walk_at "sx"
      refine ⟨rfl, ?_⟩
      walk_at "sx"
      refine r_dec (fun g => nomatch g) (fun _ => ?_)
      walk_at "sx"
      refine r_isi (a := "str") true ty (by decide +kernel) ?_
      walk_at "sx"
      refine r_isi (a := "str") true tx (by decide +kernel) ?_
      walk_at "sx"
      refine r_eq rfl ?_
      rw [decide_eq_true rfl]
      exact hq _ f1
    | @tup b0 ys0 ds0 e1 l1 a1 =>
      cases hx with
      | tup e2 l2 a2 =>
      have hd : PyData.depthAll ds0 < n := by simp only [PyData.depth] at hn; omega
      refine r_isi2 (a := "tuple") true false true ty etp (by decide +kernel) (by decide +kernel) rfl ?_
      walk_at "sx"
      refine r_newT (by show 2 ≤ 2000; decide) (fun tp2 H2 htp2 etp2 f2 => ?_)
      walk_at "sx"
      refine r_isi2 (a := "tuple") true false true ((Dd.tup e2 l2 a2).fr (f1.trans f2)).ty etp2 (by decide +kernel) (by decide +kernel) rfl ?_
      walk_at "sx"
      refine r_isi (a := "tuple") false ((Dd.tup e2 l2 a2).fr (f1.trans f2)).ty (by decide +kernel) ?_
      walk_at "sx"
      refine r_isi (a := "tuple") false ((Dd.tup e1 l1 a1).fr (f1.trans f2)).ty (by decide +kernel) ?_
      walk_at "sx"
      refine r_ne rfl ?_
      walk_at "sx"
      refine r_decN (fun g => absurd rfl g) (fun _ => r_next ?_)
      exact seq _ _ _ a2 a1 hd (by rw [← a1.len]; exact l1) ⟨_, _, rfl, rfl, .inl ⟨e2, e1⟩⟩ _ rfl H2 (f1.trans f2)
    | @lst b0 ys0 ds0 e1 l1 a1 =>
      cases hx with
      | lst e2 l2 a2 =>
      have hd : PyData.depthAll ds0 < n := by simp only [PyData.depth] at hn; omega
      refine r_isi2 (a := "list") false true true ty etp (by decide +kernel) (by decide +kernel) rfl ?_
      walk_at "sx"
      refine r_newT (by show 2 ≤ 2000; decide) (fun tp2 H2 htp2 etp2 f2 => ?_)
      walk_at "sx"
      refine r_isi2 (a := "list") false true true ((Dd.lst e2 l2 a2).fr (f1.trans f2)).ty etp2 (by decide +kernel) (by decide +kernel) rfl ?_
      walk_at "sx"
      refine r_isi (a := "list") true ((Dd.lst e2 l2 a2).fr (f1.trans f2)).ty (by decide +kernel) ?_
      walk_at "sx"
      refine r_isi (a := "list") true ((Dd.lst e1 l1 a1).fr (f1.trans f2)).ty (by decide +kernel) ?_
      walk_at "sx"
      refine r_ne rfl ?_
      walk_at "sx"
      refine r_decN (fun g => absurd rfl g) (fun _ => r_next ?_)
      exact seq _ _ _ a2 a1 hd (by rw [← a1.len]; exact l1) ⟨_, _, rfl, rfl, .inr ⟨e2, e1⟩⟩ _ rfl H2 (f1.trans f2)
theorem ok_Lsame_n (TX : Txt K mg) : ∀ n, OkF P w K mg base (n + 1) (He.ga K "_law_same") ["_law_found", "_law_due"] (sp_Lsame n)
  | 0 => okF TX.f_Lsame sc_Lsame (fun _ _ _ _ _ _ us hl => match us, hl with | [_, _], _ => rfl) (fun vs H Q E h => absurd h (by rintro ⟨x, y, rfl, d, _, _, z, _⟩; exact absurd z (Nat.not_lt_zero _))) (fun cdv A outer s H vs Q E hr h => absurd h (by rintro ⟨x, y, rfl, d, _, _, z, _⟩; exact absurd z (Nat.not_lt_zero _)))
  | n + 1 => step_Lsame TX (n + 1) n (ok_Lsame_n TX n)
theorem ok_Lsame (TX : Txt K mg) : OkF P w K mg base 9 (He.ga K "_law_same") ["_law_found", "_law_due"] (sp_Lsame 8) := ok_Lsame_n TX 8
theorem sc_t_need_agent : FnScope ["self", "agent"] ["self", "agent"] (defScope s_t_need_agent) := ⟨rfl, rfl, rfl, by decide +kernel, rfl, by decide +kernel, by decide +kernel⟩
theorem ok_t_need_agent (TX : Txt K mg) : OkF P w K mg base 1 (He.ma K (He.ga K "Table") "need_agent") ["self", "agent"] (sp_t_need_agent K) := by
  refine okF TX.f_t_need_agent sc_t_need_agent (fun _ _ _ _ _ _ us hl => match us, hl with | [_, _], _ => rfl) (fun vs H Q E h => ?_) (fun cdv A outer s H vs Q E hr h => ?_)
  · obtain ⟨_, _, rfl, _⟩ := h
    rfl
  · obtain ⟨x, y, rfl, h⟩ := h
    refine ⟨_, (pss_one (ps_if (pt_not (pt_chain op_le op_lt pe_int (pv 1) (pe_callB (k_len (K := K) rfl) (by rfl) TX.z_len (by decide +kernel) (pa_cons (k_fld (K := K) rfl (pv 0) rfl) pa_nil)))) (pss_one (ps_raise rfl (takes_of rfl rfl rfl rfl) (pmk_own PySem.F.excBase_ValueError TX.e_NoAgent.ex TX.e_NoAgent.g TX.e_NoAgent.k (raises_own TX.e_NoAgent.b TX.e_NoAgent.t) rfl))) pss_nil)), ?_⟩
    refine r_st (σ' := [some x, some y]) rfl ?_
    try dsimp only [cxOf]
    obtain ⟨A, T, a, rfl, rfl, hT, h1, h2⟩ := h
    walk_at "sx"
    refine r_range (fun _ q => by walk_at "sx"; exact q) (fun _ q => by walk_at "sx"; exact r_wants TX.tb hT (by walk_at "sx"; exact r_lenWan hT q)) ?_
    walk_at "sx"
    refine r_decN (fun g => ?_) (fun g => ?_)
    · exact h2 g
    · walk_at "sx"
      exact h1 g
theorem sc_t_held : FnScope ["self", "agent", "lock"] ["self", "agent"] (defScope s_t_held) := ⟨rfl, rfl, rfl, by decide +kernel, rfl, by decide +kernel, by decide +kernel⟩
theorem ok_t_held (TX : Txt K mg) : OkF P w K mg base 2 (He.ma K (He.ga K "Table") "held") ["self", "agent"] (sp_t_held K) := by
  obtain ⟨⟨fd_t_need_agent, G_t_need_agent, b_t_need_agent⟩, k_t_need_agent⟩ := (ok_t_need_agent TX : OkF P w K mg base _ _ _ _)
  refine okF TX.f_t_held sc_t_held (fun _ _ _ _ _ _ us hl => match us, hl with | [_, _], _ => rfl) (fun vs H Q E h => ?_) (fun cdv A outer s H vs Q E hr h => ?_)
  · obtain ⟨_, _, rfl, _⟩ := h
    rfl
  · obtain ⟨x, y, rfl, h⟩ := h
    refine ⟨_, (pss_cons (ps_expr (pe_meth (pv 0) TX.c_Table TX.m_t_need_agent G_t_need_agent (hr.mono (by decide)) b_t_need_agent .nil pE (pa_cons (pv 1) pa_nil))) (pss_one (ps_ret (pe_lc (own := [("lock", 2)]) (g := gName 2) rfl sc_t_held.nd (pi_range1 (by rfl) TX.z_range (pa_cons (pe_callB (k_len (K := K) rfl) (by rfl) TX.z_len (by decide +kernel) (pa_cons (k_fld (K := K) rfl (pv 0) rfl) pa_nil)) pa_nil)) (blkOk_by (N := ["self", "agent", "lock"]) (sc := defScope s_t_held) (by decide +kernel)) (fun _ _ _ _ _ => pg_name (i := 2) sc_t_held.nd rfl (Or.inl rfl)) (fun _ _ _ _ _ => by exact (pts_one (pt_cmpR (op_eq) (pe_ix (k_ixl (K := K) rfl) (k_fld (K := K) rfl (pv 0) rfl) (pv 2) (fun _ _ => rfl)) (pv 1) (nomark _)))) (fun _ _ _ _ _ => by exact (pv 2)))))), ?_⟩
    refine r_st (σ' := [some x, some y, none]) rfl ?_
    try dsimp only [cxOf]
    obtain ⟨A, T, a, rfl, rfl, hT, h1, h2⟩ := h
    walk_at "sx"
    refine r_tmeth hT (by decide +kernel) ?_
    walk_at "sx"
    refine ⟨A, T, a, rfl, rfl, hT, fun g => ?_, h2⟩
    have q := h1 g
    obtain ⟨a, rfl, ha⟩ := Tb.isA_nat g
    walk_at "sx"
    refine r_lcR (n := T.m) (fun l => decide (T.ow l = some a)) (fun l => .int (l : Int)) (by have := hT.sz.m12; omega) (fun Q q => by walk_at "sx"; refine r_owners TX.tb hT ?_; walk_at "sx"; exact r_lenOwn hT q) (fun _ => rfl) (fun i H' hi f Q q => ?_) (fun i H' hi _ f Q q => ?_) (fun p H' hp hl f => ?_)
    · walk_at "sx"
      refine r_owners TX.tb (hT.fr0 f) ?_
      walk_at "sx"
      refine r_ixOwn (hT.fr0 f) hi ?_
      walk_at "sx"
      refine r_eq (scal_oo _ _) ?_
      walk_at "sx"
      have e : decide (oV (T.ow i) = V.int (a : Int)) = decide (T.ow i = some a) := by rw [decide_eq_decide]; exact oV_int _ _
      rw [e]
      exact q H' Fr.refl
    · walk_at "sx"
      exact q _ H' Fr.refl (.int _)
    · refine q p H' hp ?_ f
      have e : turns (fun l => decide (T.ow l = some a)) (fun l => PyData.int (l : Int)) T.m = ((T.held a).map fun l : Nat => (l : Int)).map PyData.int := by
        unfold turns Tb.held
        rw [List.map_map]
        rfl
      rw [e] at hl
      have := hl.ints
      rw [List.map_map] at this
      exact this
theorem sc_t_agents : FnScope ["self"] ["self"] (defScope s_t_agents) := ⟨rfl, rfl, rfl, by decide +kernel, rfl, by decide +kernel, by decide +kernel⟩
theorem ok_t_agents (TX : Txt K mg) : OkF P w K mg base 1 (He.ma K (He.ga K "Table") "agents") ["self"] (sp_t_agents K) := by
  refine okF TX.f_t_agents sc_t_agents (fun _ _ _ _ _ _ us hl => match us, hl with | [_], _ => rfl) (fun vs H Q E h => ?_) (fun cdv A outer s H vs Q E hr h => ?_)
  · obtain ⟨_, rfl, _⟩ := h
    rfl
  · obtain ⟨x, rfl, h⟩ := h
    refine ⟨_, (pss_one (ps_ret (pe_callB (k_len (K := K) rfl) (by rfl) TX.z_len (by decide +kernel) (pa_cons (k_fld (K := K) rfl (pv 0) rfl) pa_nil)))), ?_⟩
    refine r_st (σ' := [some x]) rfl ?_
    try dsimp only [cxOf]
    obtain ⟨A, T, rfl, hT, q⟩ := h
    walk_at "sx"
    refine r_wants TX.tb hT ?_
    walk_at "sx"
    exact r_lenWan hT q
theorem sc_t_need_lock : FnScope ["self", "lock"] ["self", "lock"] (defScope s_t_need_lock) := ⟨rfl, rfl, rfl, by decide +kernel, rfl, by decide +kernel, by decide +kernel⟩
theorem ok_t_need_lock (TX : Txt K mg) : OkF P w K mg base 1 (He.ma K (He.ga K "Table") "need_lock") ["self", "lock"] (sp_t_need_lock K) := by
  refine okF TX.f_t_need_lock sc_t_need_lock (fun _ _ _ _ _ _ us hl => match us, hl with | [_, _], _ => rfl) (fun vs H Q E h => ?_) (fun cdv A outer s H vs Q E hr h => ?_)
  · obtain ⟨_, _, rfl, _⟩ := h
    rfl
  · obtain ⟨x, y, rfl, h⟩ := h
    refine ⟨_, (pss_one (ps_if (pt_not (pt_chain op_le op_lt pe_int (pv 1) (pe_callB (k_len (K := K) rfl) (by rfl) TX.z_len (by decide +kernel) (pa_cons (k_fld (K := K) rfl (pv 0) rfl) pa_nil)))) (pss_one (ps_raise rfl (takes_of rfl rfl rfl rfl) (pmk_own PySem.F.excBase_ValueError TX.e_NoLock.ex TX.e_NoLock.g TX.e_NoLock.k (raises_own TX.e_NoLock.b TX.e_NoLock.t) rfl))) pss_nil)), ?_⟩
    refine r_st (σ' := [some x, some y]) rfl ?_
    try dsimp only [cxOf]
    obtain ⟨A, T, a, rfl, rfl, hT, h1, h2⟩ := h
    walk_at "sx"
    refine r_range (fun _ q => by walk_at "sx"; exact q) (fun _ q => by walk_at "sx"; exact r_owners TX.tb hT (by walk_at "sx"; exact r_lenOwn hT q)) ?_
    walk_at "sx"
    refine r_decN (fun g => ?_) (fun g => ?_)
    · exact h2 g
    · walk_at "sx"
      exact h1 g
theorem sc_t_holder : FnScope ["self", "lock"] ["self", "lock"] (defScope s_t_holder) := ⟨rfl, rfl, rfl, by decide +kernel, rfl, by decide +kernel, by decide +kernel⟩
theorem ok_t_holder (TX : Txt K mg) : OkF P w K mg base 2 (He.ma K (He.ga K "Table") "holder") ["self", "lock"] (sp_t_holder K) := by
  obtain ⟨⟨fd_t_need_lock, G_t_need_lock, b_t_need_lock⟩, k_t_need_lock⟩ := (ok_t_need_lock TX : OkF P w K mg base _ _ _ _)
  refine okF TX.f_t_holder sc_t_holder (fun _ _ _ _ _ _ us hl => match us, hl with | [_, _], _ => rfl) (fun vs H Q E h => ?_) (fun cdv A outer s H vs Q E hr h => ?_)
  · obtain ⟨_, _, rfl, _⟩ := h
    rfl
  · obtain ⟨x, y, rfl, h⟩ := h
    refine ⟨_, (pss_cons (ps_expr (pe_meth (pv 0) TX.c_Table TX.m_t_need_lock G_t_need_lock (hr.mono (by decide)) b_t_need_lock .nil pE (pa_cons (pv 1) pa_nil))) (pss_one (ps_ret (pe_ix (k_ixl (K := K) rfl) (k_fld (K := K) rfl (pv 0) rfl) (pv 1) (fun _ _ => rfl))))), ?_⟩
    refine r_st (σ' := [some x, some y]) rfl ?_
    try dsimp only [cxOf]
    obtain ⟨A, T, a, rfl, rfl, hT, h1, h2⟩ := h
    walk_at "sx"
    refine r_tmeth hT (by decide +kernel) ?_
    walk_at "sx"
    refine ⟨A, T, a, rfl, rfl, hT, fun g => ?_, h2⟩
    have q := h1 g
    obtain ⟨a, rfl, ha⟩ := Tb.isL_nat g
    walk_at "sx"
    refine r_owners TX.tb hT ?_
    walk_at "sx"
    exact r_ixOwn hT ha q
theorem sc_t_waits : FnScope ["self", "agent"] ["self", "agent"] (defScope s_t_waits) := ⟨rfl, rfl, rfl, by decide +kernel, rfl, by decide +kernel, by decide +kernel⟩
theorem ok_t_waits (TX : Txt K mg) : OkF P w K mg base 2 (He.ma K (He.ga K "Table") "waits") ["self", "agent"] (sp_t_waits K) := by
  obtain ⟨⟨fd_t_need_agent, G_t_need_agent, b_t_need_agent⟩, k_t_need_agent⟩ := (ok_t_need_agent TX : OkF P w K mg base _ _ _ _)
  refine okF TX.f_t_waits sc_t_waits (fun _ _ _ _ _ _ us hl => match us, hl with | [_, _], _ => rfl) (fun vs H Q E h => ?_) (fun cdv A outer s H vs Q E hr h => ?_)
  · obtain ⟨_, _, rfl, _⟩ := h
    rfl
  · obtain ⟨x, y, rfl, h⟩ := h
    refine ⟨_, (pss_cons (ps_expr (pe_meth (pv 0) TX.c_Table TX.m_t_need_agent G_t_need_agent (hr.mono (by decide)) b_t_need_agent .nil pE (pa_cons (pv 1) pa_nil))) (pss_one (ps_ret (pe_ix (k_ixl (K := K) rfl) (k_fld (K := K) rfl (pv 0) rfl) (pv 1) (fun _ _ => rfl))))), ?_⟩
    refine r_st (σ' := [some x, some y]) rfl ?_
    try dsimp only [cxOf]
    obtain ⟨A, T, a, rfl, rfl, hT, h1, h2⟩ := h
    walk_at "sx"
    refine r_tmeth hT (by decide +kernel) ?_
    walk_at "sx"
    refine ⟨A, T, a, rfl, rfl, hT, fun g => ?_, h2⟩
    have q := h1 g
    obtain ⟨a, rfl, ha⟩ := Tb.isA_nat g
    walk_at "sx"
    refine r_wants TX.tb hT ?_
    walk_at "sx"
    exact r_ixWan hT ha q
theorem sc_next_of : FnScope ["table", "agent", "lock"] ["table", "agent"] (defScope s_next_of) := ⟨rfl, rfl, rfl, by decide +kernel, rfl, by decide +kernel, by decide +kernel⟩
theorem ok_next_of (TX : Txt K mg) : OkF P w K mg base 3 (He.ga K "next_of") ["table", "agent"] (sp_next01 K) := by
  obtain ⟨⟨fd_t_holder, G_t_holder, b_t_holder⟩, k_t_holder⟩ := (ok_t_holder TX : OkF P w K mg base _ _ _ _)
  obtain ⟨⟨fd_t_waits, G_t_waits, b_t_waits⟩, k_t_waits⟩ := (ok_t_waits TX : OkF P w K mg base _ _ _ _)
  refine okF TX.f_next_of sc_next_of (fun _ _ _ _ _ _ us hl => match us, hl with | [_, _], _ => rfl) (fun vs H Q E h => ?_) (fun cdv A outer s H vs Q E hr h => ?_)
  · obtain ⟨_, _, rfl, _⟩ := h
    rfl
  · obtain ⟨x, y, rfl, h⟩ := h
    refine ⟨_, (pss_cons (ps_set (i := 2) sc_next_of.nd rfl (Or.inl rfl) (pe_meth (pv 0) TX.c_Table TX.m_t_waits G_t_waits (hr.mono (by decide)) b_t_waits .nil pE (pa_cons (pv 1) pa_nil))) (pss_one (ps_ret (pe_ifExp (pt_cmpR (op_isN) (pv 2) pe_non (nomark _)) pe_non (pe_meth (pv 0) TX.c_Table TX.m_t_holder G_t_holder (hr.mono (by decide)) b_t_holder .nil pE (pa_cons (pv 2) pa_nil)))))), ?_⟩
    refine r_st (σ' := [some x, some y, none]) rfl ?_
    try dsimp only [cxOf]
    obtain ⟨A, T, a0, rfl, rfl, hT, hW, q, qe⟩ := h
    walk_at "sx"
    refine r_tmeth hT (by decide +kernel) ?_
    walk_at "sx"
    refine ⟨A, T, a0, rfl, rfl, hT, fun ha0 => ?_, fun z => qe z⟩
    obtain ⟨a, rfl, ha⟩ := Tb.isA_nat ha0
    have q := q ha0
    rw [Int.toNat_natCast] at q ⊢
    walk_at "sx"
    refine ⟨rfl, ?_⟩
    walk_at "sx"
    unfold Tb.nx at q
    cases hw : T.wa a with
    | none =>
      rw [hw] at q
      refine r_dec (fun _ => ?_) (fun g => absurd rfl g)
      walk_at "sx"
      exact q
    | some l =>
      rw [hw] at q
      refine r_dec (fun g => by cases g) (fun _ => ?_)
      walk_at "sx"
      refine r_tmeth hT (by decide +kernel) ?_
      walk_at "sx"
      refine ⟨A, T, (l : Int), rfl, rfl, hT, fun _ => ?_, fun z => absurd (Tb.isL_of (hW.wl a l hw).1) z⟩
      rw [Int.toNat_natCast]
      exact q
theorem sc_chain : FnScope ["table", "agent", "found", "here"] ["table", "agent"] (defScope s_chain) := ⟨rfl, rfl, rfl, by decide +kernel, rfl, by decide +kernel, by decide +kernel⟩
theorem ok_chain (TX : Txt K mg) : OkF P w K mg base 4 (He.ga K "chain") ["table", "agent"] (sp_chain01 K) := by
  obtain ⟨⟨fd_next_of, G_next_of, b_next_of⟩, k_next_of⟩ := (ok_next_of TX : OkF P w K mg base _ _ _ _)
  refine okF TX.f_chain sc_chain (fun _ _ _ _ _ _ us hl => match us, hl with | [_, _], _ => rfl) (fun vs H Q E h => ?_) (fun cdv A outer s H vs Q E hr h => ?_)
  · obtain ⟨_, _, rfl, _⟩ := h
    rfl
  · obtain ⟨x, y, rfl, h⟩ := h
    refine ⟨_, (pss_cons (ps_set (i := 2) sc_chain.nd rfl (Or.inl rfl) (pe_lst (pa_cons (pv 1) pa_nil))) (pss_cons (ps_set (i := 3) sc_chain.nd rfl (Or.inl rfl) (pe_call G_next_of (hr.mono (by decide)) (by rfl) TX.g_next_of k_next_of b_next_of .nil pE (pa_cons (pv 0) (pa_cons (pv 1) pa_nil)))) (pss_cons (ps_while pOwn (PW.pt (pw_and (pt_cmpR (op_notN) (pv 3) pe_non (nomark _)) (pw_and1 (pt_cmpR (k_notInS (K := K) rfl) (pv 3) (pv 2) (by with_unfolding_all rfl))))) (pss_cons (ps_expr (pe_bm PySem.F.plainAttrs_list PySem.F.slot_list_append PySem.F.type_list_append mt_append (pv 2) (pa_cons (pv 3) pa_nil))) (pss_one (ps_set (i := 3) sc_chain.nd rfl (Or.inl rfl) (pe_call G_next_of (hr.mono (by decide)) (by rfl) TX.g_next_of k_next_of b_next_of .nil pE (pa_cons (pv 0) (pa_cons (pv 3) pa_nil))))))) (pss_one (ps_ret (pv 2)))))), ?_⟩
    refine r_st (σ' := [some x, some y, none, none]) rfl ?_
    try dsimp only [cxOf]
    obtain ⟨A, T, a0, rfl, rfl, hT, hW, q, qe⟩ := h
    walk_at "sx"
    refine r_newL (by show 1 ≤ 2000; decide) (fun p H1 hp e1 f1 => ?_)
    walk_at "sx"
    refine ⟨A, T, a0, rfl, rfl, hT.fr0 f1, hW, fun ha0 => ?_, fun z => qe z H1 f1⟩
    obtain ⟨a, rfl, ha⟩ := Tb.isA_nat ha0
    have q := q ha0
    rw [Int.toNat_natCast] at q ⊢
    walk_at "sx"
    refine ⟨fun m σ' H' => ∃ (f : List Nat) (h : Option Nat), m = T.n + 1 - f.length ∧ σ' = [some (.ref A.p), some (.int (a : Int)), some (.ref p), some (oV h)] ∧ Fr No H H' ∧ H' p = some (.lst (f.map nV)) ∧ T.Wk f h (T.way a), ⟨_, [a], T.nx a, rfl, rfl, f1, e1, Tb.Wk.init hW ha⟩, ?_⟩
    rintro m σ' H' ⟨f, h, rfl, rfl, f2, e2, w⟩
    have hl := w.len
    have h8 := hT.sz.n8
    walk_at "sx"
    refine ⟨rfl, ?_⟩
    walk_at "sx"
    cases h with
    | none =>
      refine r_decN (fun g => absurd rfl g) (fun _ => ?_)
      walk_at "sx"
      have e : T.chainT a = f := by unfold Tb.chainT; rw [w.stop0]
      exact q p H' hp (by rw [e]; exact e2) f2
    | some b =>
      refine r_decN (fun _ => ?_) (fun g => by cases g)
      walk_at "sx"
      refine r_notInL e2 ?_
      walk_at "sx"
      refine r_decN (fun hb => ?_) (fun hb => ?_)
      · obtain ⟨w', hl'⟩ := w.step hW hb
        refine ⟨fun σ2 H2 => ∃ m', m' < T.n + 1 - f.length ∧ ∃ (f' : List Nat) (h' : Option Nat), m' = T.n + 1 - f'.length ∧ σ2 = [some (.ref A.p), some (.int (a : Int)), some (.ref p), some (oV h')] ∧ Fr No H H2 ∧ H2 p = some (.lst (f'.map nV)) ∧ T.Wk f' h' (T.way a), fun σ2 H2 z => z, ?_⟩
        walk_at "sx"
        refine r_tyL e2 ?_
        walk_at "sx"
        refine r_append e2 (by rw [List.length_map]; omega) ?_
        have f3 : Fr No H (upd H' p (.lst (f.map nV ++ [V.int (b : Int)]))) := f2.mut hp
        walk_at "sx"
        refine ⟨A, T, (b : Int), rfl, rfl, hT.fr0 f3, hW, fun _ => ?_, fun z => absurd (Tb.isA_of (w.hl b rfl)) z⟩
        rw [Int.toNat_natCast]
        walk_at "sx"
        refine ⟨_, ?_, f ++ [b], T.nx b, rfl, rfl, f3, ?_, w'⟩
        · rw [List.length_append, List.length_singleton]; omega
        · rw [upd_same, List.map_append]; rfl
      · walk_at "sx"
        have e : T.chainT a = f := by unfold Tb.chainT; rw [w.stop1 hb]
        exact q p H' hp (by rw [e]; exact e2) f2
theorem sc_ring_of : FnScope ["table", "agent", "found"] ["table", "agent"] (defScope s_ring_of) := ⟨rfl, rfl, rfl, by decide +kernel, rfl, by decide +kernel, by decide +kernel⟩
theorem ok_ring_of (TX : Txt K mg) : OkF P w K mg base 5 (He.ga K "ring_of") ["table", "agent"] (sp_ring_of K) := by
  obtain ⟨⟨fd_next_of, G_next_of, b_next_of⟩, k_next_of⟩ := (ok_next_of TX : OkF P w K mg base _ _ _ _)
  obtain ⟨⟨fd_chain, G_chain, b_chain⟩, k_chain⟩ := (ok_chain TX : OkF P w K mg base _ _ _ _)
  refine okF TX.f_ring_of sc_ring_of (fun _ _ _ _ _ _ us hl => match us, hl with | [_, _], _ => rfl) (fun vs H Q E h => ?_) (fun cdv A outer s H vs Q E hr h => ?_)
  · obtain ⟨_, _, rfl, _⟩ := h
    rfl
  · obtain ⟨x, y, rfl, h⟩ := h
    refine ⟨_, (pss_cons (ps_set (i := 2) sc_ring_of.nd rfl (Or.inl rfl) (pe_call G_chain (hr.mono (by decide)) (by rfl) TX.g_chain k_chain b_chain .nil pE (pa_cons (pv 0) (pa_cons (pv 1) pa_nil)))) (pss_cons (ps_if (PW.pt (pw_or (pt_cmpR (op_ne) (pe_call G_next_of (hr.mono (by decide)) (by rfl) TX.g_next_of k_next_of b_next_of .nil pE (pa_cons (pv 0) (pa_cons (pe_ix (k_ixl (K := K) rfl) (pv 2) (pe_un un_neg pe_int) (fun _ _ => rfl)) pa_nil))) (pv 1) (nomark _)) (pw_or1 (pt_cmpR (op_ne) (pe_callB (k_max (K := K) rfl rfl) (by rfl) TX.z_max (by decide +kernel) (pa_cons (pv 2) pa_nil)) (pv 1) (nomark _))))) (pss_one (ps_ret pe_non)) pss_nil) (pss_one (ps_ret (pe_callTy (k_tupOf (K := K) rfl) (by rfl) TX.z_tuple (by decide +kernel) (pa_cons (pv 2) pa_nil)))))), ?_⟩
    refine r_st (σ' := [some x, some y, none]) rfl ?_
    try dsimp only [cxOf]
    obtain ⟨A, T, a, rfl, rfl, hT, hW, ha, q0, q1⟩ := h
    walk_at "sx"
    refine ⟨A, T, (a : Int), rfl, rfl, hT, hW, fun _ p H1 hp e1 f1 => ?_, fun z => absurd (Tb.isA_of ha) z⟩
    rw [Int.toNat_natCast] at e1
    obtain ⟨w1, w2, i, z, w3, w4⟩ := Tb.way_ok hW ha
    have hz : z < T.n := w2 z (by rw [w3]; simp)
    have e1' : H1 p = some (.lst (i.map nV ++ [V.int (z : Int)])) := by
      rw [e1]
      show some (HO.lst ((T.way a).1.map nV)) = _
      rw [w3, List.map_append]
      rfl
    have hT1 := hT.fr0 f1
    walk_at "sx"
    refine r_un ?_
    walk_at "sx"
    refine r_rU ?_
    refine r_ixLast e1' ?_
    walk_at "sx"
    refine ⟨A, T, (z : Int), rfl, rfl, hT1, hW, fun _ => ?_, fun q => absurd (Tb.isA_of hz) q⟩
    rw [Int.toNat_natCast, w4]
    walk_at "sx"
    refine r_ne (scal_oo _ _) ?_
    walk_at "sx"
    refine r_decN (fun g => ?_) (fun g => ?_)
    · walk_at "sx"
      refine q0 H1 ?_ f1
      unfold Tb.ringAt
      rw [if_neg (fun k => g ((oV_int _ _).mpr k.1))]
    have g' := (oV_int _ _).mp g
    walk_at "sx"
    refine r_maxN (xs := T.chainT a) e1 (by unfold Tb.chainT; rw [w3]; simp) ?_
    walk_at "sx"
    refine r_ne rfl ?_
    walk_at "sx"
    refine r_decN (fun g2 => ?_) (fun g2 => ?_)
    · walk_at "sx"
      refine q0 H1 ?_ f1
      unfold Tb.ringAt
      rw [if_neg (fun k => g2 (by show V.int (Tb.mx (T.way a).1 : Int) = _; rw [k.2]))]
    · walk_at "sx"
      refine r_tupN e1 (fun t H2 ht e2 f2 => ?_)
      refine q1 (T.chainT a) t H2 ?_ (f1.fresh ht) e2 (f1.trans f2)
      unfold Tb.ringAt
      have g2' : Tb.mx (T.way a).1 = a := by
        have := V.int.inj g2
        exact Int.ofNat.inj this
      rw [if_pos ⟨g', g2'⟩]
      rfl
theorem sc_rings : FnScope ["table", "found", "agent", "ring"] ["table"] (defScope s_rings) := ⟨rfl, rfl, rfl, by decide +kernel, rfl, by decide +kernel, by decide +kernel⟩
theorem ok_rings (TX : Txt K mg) : OkF P w K mg base 6 (He.ga K "rings") ["table"] (sp_rings K) := by
  obtain ⟨⟨fd_t_agents, G_t_agents, b_t_agents⟩, k_t_agents⟩ := (ok_t_agents TX : OkF P w K mg base _ _ _ _)
  obtain ⟨⟨fd_ring_of, G_ring_of, b_ring_of⟩, k_ring_of⟩ := (ok_ring_of TX : OkF P w K mg base _ _ _ _)
  refine okF TX.f_rings sc_rings (fun _ _ _ _ _ _ us hl => match us, hl with | [_], _ => rfl) (fun vs H Q E h => ?_) (fun cdv A outer s H vs Q E hr h => ?_)
  · obtain ⟨_, rfl, _⟩ := h
    rfl
  · obtain ⟨x, rfl, h⟩ := h
    refine ⟨_, (pss_cons (ps_setLc (i := 1) (own := [("agent", 2)]) (g := gName 2) rfl sc_rings.nd rfl rfl (sw_true rfl rfl rfl (by decide +kernel)) (pi_range1 (by rfl) TX.z_range (pa_cons (pe_meth0 (pv 0) TX.c_Table TX.m_t_agents G_t_agents (hr.mono (by decide)) b_t_agents .nil pE) pa_nil)) (blkOk_by (N := ["table", "found", "agent", "ring"]) (sc := defScope s_rings) (by decide +kernel)) (fun _ _ _ _ _ => pg_name (i := 2) sc_rings.nd rfl (Or.inl rfl)) (fun _ _ _ _ _ => by exact pts_nil) (fun _ _ _ _ _ => by exact (pe_call G_ring_of (hr.mono (by decide)) (by rfl) TX.g_ring_of k_ring_of b_ring_of .nil passL (pa_cons (pv 0) (pa_cons (pv 2) pa_nil))))) (pss_one (ps_ret (pe_lc (own := [("ring", 3)]) (g := gName 3) rfl sc_rings.nd (k_listI (K := K) rfl (pv 1)) (blkOk_by (N := ["table", "found", "agent", "ring"]) (sc := defScope s_rings) (by decide +kernel)) (fun _ _ _ _ _ => pg_name (i := 3) sc_rings.nd rfl (Or.inl rfl)) (fun _ _ _ _ _ => by exact (pts_one (pt_cmpR (op_notN) (pv 3) pe_non (nomark _)))) (fun _ _ _ _ _ => by exact (pv 3)))))), ?_⟩
    refine r_st (σ' := [some x, none, none, none]) rfl ?_
    try dsimp only [cxOf]
    obtain ⟨A, T, rfl, hT, hW, q⟩ := h
    walk_at "sx"
    refine r_lcR (n := T.n) (fun _ => true) (fun a => match T.ringAt a with | none => .none | some r => ringD r) (by have := hT.sz.n8; omega) (fun Q q => by walk_at "sx"; refine r_tmeth hT (by decide +kernel) ?_; walk_at "sx"; exact ⟨A, T, rfl, hT, q⟩) (fun _ => rfl) (fun i H' hi f => tells_yes) (fun i H' hi _ f Q q => ?_) (fun p1 H1 hp1 hl1 f1 => ?_)
    · walk_at "sx"
      refine ⟨A, T, i, rfl, rfl, hT.fr0 f, hW, hi, fun H2 e f2 => ?_, fun r p H2 e hp e2 f2 => ?_⟩
      · refine q _ H2 f2 ?_
        rw [e]
        exact .non
      · refine q _ H2 f2 ?_
        rw [e]
        exact .tup e2 (td_nats H2 r)
    rw [turns_all] at hl1
    obtain ⟨vs, e1, a1⟩ := hl1
    walk_at "sx"
    have hvl : vs.length = T.n := by rw [a1.len, List.length_map, List.length_range]
    have vat : ∀ i v, vs[i]? = some v → i < T.n ∧ Td H1 v (match T.ringAt i with | none => .none | some r => ringD r) := fun i v hv => by
      have hi : i < T.n := by rw [← hvl]; exact (List.getElem?_eq_some_iff.mp hv).1
      obtain ⟨u, e2, t⟩ := a1.at (i := i) (d := match T.ringAt i with | none => .none | some r => ringD r) (by rw [List.getElem?_map, List.getElem?_range hi]; rfl)
      rw [hv] at e2
      cases e2
      exact ⟨hi, t⟩
    refine r_lcL (a := p1) (xs := vs) (fun i => (T.ringAt i).isSome) (fun i => match T.ringAt i with | none => .none | some r => ringD r) (by rw [hvl]; have := hT.sz.n8; omega) (fun Q q => by walk_at "sx"; exact q) e1 (fun _ => rfl) (fun i v H' hv f Q q => ?_) (fun i v H' hv hf f Q q => ?_) (fun p2 H2 hp2 hl2 f2 => ?_)
    · obtain ⟨hi, t⟩ := vat i v hv
      walk_at "sx"
      refine ⟨rfl, ?_⟩
      walk_at "sx"
      have e : (!decide (v = V.non)) = (T.ringAt i).isSome := by
        cases qr : T.ringAt i with
        | none => rw [qr] at t; cases t; rfl
        | some r => rw [qr] at t; cases t; rfl
      rw [e]
      exact q H' Fr.refl
    · obtain ⟨hi, t⟩ := vat i v hv
      walk_at "sx"
      exact q _ H' Fr.refl (t.fr f)
    · rw [hvl] at hl2
      have e : turns (fun i => (T.ringAt i).isSome) (fun i => match T.ringAt i with | none => .none | some r => ringD r) T.n = T.ringsT.map ringD := by
        unfold turns Tb.ringsT
        exact some_map (List.range T.n) T.ringAt
      rw [e] at hl2
      exact q p2 H2 (f1.fresh hp2) hl2 (f1.trans f2)
theorem sc_lightest : FnScope ["pairs"] ["pairs"] (defScope s_lightest) := ⟨rfl, rfl, rfl, by decide +kernel, rfl, by decide +kernel, by decide +kernel⟩
theorem ok_lightest (TX : Txt K mg) : OkF P w K mg base 1 (He.ga K "lightest") ["pairs"] (sp_lightest K) := by
  refine okF TX.f_lightest sc_lightest (fun _ _ _ _ _ _ us hl => match us, hl with | [_], _ => rfl) (fun vs H Q E h => ?_) (fun cdv A outer s H vs Q E hr h => ?_)
  · obtain ⟨_, rfl, _⟩ := h
    rfl
  · obtain ⟨x, rfl, h⟩ := h
    refine ⟨_, (pss_one (ps_ret (pe_ix (k_ixt (K := K) rfl) (pe_callB (k_minP (K := K) rfl rfl hr.units) (by rfl) TX.z_min (by decide +kernel) (pa_cons (pv 0) pa_nil)) pe_int (fun _ _ => rfl)))), ?_⟩
    refine r_st (σ' := [some x]) rfl ?_
    try dsimp only [cxOf]
    obtain ⟨p, ps, rfl, hp, h0, hq⟩ := h
    walk_at "sx"
    refine r_minPairs hp h0 (fun m t hm hle ht => ?_)
    exact r_ixt (i := 1) (v := .int m.2) ht rfl (hq m hm hle)
theorem sc_least : FnScope ["table", "found", "ring", "agent"] ["table"] (defScope s_least) := ⟨rfl, rfl, rfl, by decide +kernel, rfl, by decide +kernel, by decide +kernel⟩
theorem ok_least (TX : Txt K mg) : OkF P w K mg base 7 (He.ga K "least") ["table"] (sp_least K) := by
  obtain ⟨⟨fd_t_held, G_t_held, b_t_held⟩, k_t_held⟩ := (ok_t_held TX : OkF P w K mg base _ _ _ _)
  obtain ⟨⟨fd_rings, G_rings, b_rings⟩, k_rings⟩ := (ok_rings TX : OkF P w K mg base _ _ _ _)
  obtain ⟨⟨fd_lightest, G_lightest, b_lightest⟩, k_lightest⟩ := (ok_lightest TX : OkF P w K mg base _ _ _ _)
  refine okF TX.f_least sc_least (fun _ _ _ _ _ _ us hl => match us, hl with | [_], _ => rfl) (fun vs H Q E h => ?_) (fun cdv A outer s H vs Q E hr h => ?_)
  · obtain ⟨_, rfl, _⟩ := h
    rfl
  · obtain ⟨x, rfl, h⟩ := h
    refine ⟨_, (pss_cons (ps_set (i := 1) sc_least.nd rfl (Or.inl rfl) (pe_lst pa_nil)) (pss_cons (ps_for pOwn rfl (k_listI (K := K) rfl (pe_call G_rings (hr.mono (by decide)) (by rfl) TX.g_rings k_rings b_rings .nil pE (pa_cons (pv 0) pa_nil))) (pg_name (i := 2) sc_least.nd rfl (Or.inl rfl)) (pss_one (ps_expr (pe_bm PySem.F.plainAttrs_list PySem.F.slot_list_append PySem.F.type_list_append mt_append (pv 1) (pa_cons (pe_call G_lightest (hr.mono (by decide)) (by rfl) TX.g_lightest k_lightest b_lightest .nil pE (pa_cons (pe_lc (own := [("agent", 3)]) (g := gName 3) rfl sc_least.nd (k_tupI (K := K) rfl (pv 2)) (blkOk_by (N := ["table", "found", "ring", "agent"]) (sc := defScope s_least) (by decide +kernel)) (fun _ _ _ _ _ => pg_name (i := 3) sc_least.nd rfl (Or.inl rfl)) (fun _ _ _ _ _ => by exact pts_nil) (fun _ _ _ _ _ => by exact (pe_tup (pa_cons (pe_callB (k_len (K := K) rfl) (by rfl) TX.z_len (by decide +kernel) (pa_cons (pe_meth (pv 0) TX.c_Table TX.m_t_held G_t_held (hr.mono (by decide)) b_t_held .nil passL (pa_cons (pv 3) pa_nil)) pa_nil)) (pa_cons (pv 3) pa_nil))))) pa_nil)) pa_nil))))) (pss_one (ps_ret (pe_tup (pa_cons (pe_callB (k_sum (K := K) rfl rfl) (by rfl) TX.z_sum (by decide +kernel) (pa_cons (pe_lc (own := [("agent", 3)]) (g := gName 3) rfl sc_least.nd (k_listI (K := K) rfl (pv 1)) (blkOk_by (N := ["table", "found", "ring", "agent"]) (sc := defScope s_least) (by decide +kernel)) (fun _ _ _ _ _ => pg_name (i := 3) sc_least.nd rfl (Or.inl rfl)) (fun _ _ _ _ _ => by exact pts_nil) (fun _ _ _ _ _ => by exact (pe_callB (k_len (K := K) rfl) (by rfl) TX.z_len (by decide +kernel) (pa_cons (pe_meth (pv 0) TX.c_Table TX.m_t_held G_t_held (hr.mono (by decide)) b_t_held .nil passL (pa_cons (pv 3) pa_nil)) pa_nil)))) pa_nil)) (pa_cons (pe_callB (k_sortedI (K := K) rfl) (by rfl) TX.z_sorted (by decide +kernel) (pa_cons (pv 1) pa_nil)) pa_nil))))))), ?_⟩
    refine r_st (σ' := [some x, none, none, none]) rfl ?_
    try dsimp only [cxOf]
    obtain ⟨A, T, rfl, hT, hW, hq⟩ := h
    obtain ⟨k1, k2⟩ := Tb.rings_len hW
    have hll := Tb.lights_len hW
    walk_at "sx"
    refine r_newL (Nat.zero_le _) (fun pf H1 hpf epf f1 => ?_)
    walk_at "sx"
    refine r_forLx ?_
    walk_at "sx"
    refine ⟨A, T, rfl, hT.fr0 f1, hW, fun pr H2 hpr epr f2 => ?_⟩
    obtain ⟨vr, er, ar⟩ := epr
    have hvl : vr.length = T.ringsT.length := by rw [ar.len, List.length_map]
    have npr : pr ≠ pf := ne_fresh epf hpr
    refine r_lstOn er (fun i σ' H' => ∃ x2, σ' = [some (.ref A.p), some (.ref pf), x2, none] ∧ Fr No H H' ∧ H' pr = some (.lst vr) ∧ TdAll H' vr (T.ringsT.map ringD) ∧ H' pf = some (.lst (((T.ringsT.take i).map T.lightT).map nV))) ⟨_, rfl, f1.trans f2, er, ar, f2.lst epf⟩ (fun i σ' H' _ pp => ?_) (fun i x σ' H3 hx pp => ?_) (fun σ' H3 pp => ?_)
    · obtain ⟨x2, rfl, _, e, _⟩ := pp
      exact SqL.of e
    · obtain ⟨x2, rfl, f3, er3, ar3, ep3⟩ := pp
      obtain ⟨r, a, eri, rfl, ea⟩ := ring_at ar3 hx
      have hrm := List.mem_of_getElem? eri
      obtain ⟨kr1, kr2⟩ := k2 r hrm
      have R := (Tb.mem_rings hW).mp hrm
      walk_at "sx"
      refine r_tyL ep3 ?_
      walk_at "sx"
      refine r_lcT (a := a) (xs := r.map nV) (fun _ => true) (fun i => pairD (T.wtP (r.getD i 0))) (by rw [List.length_map]; omega) (fun Q q => by walk_at "sx"; exact q) ea (fun _ => rfl) (fun i x H' hx f => tells_yes) (fun i x H' hx _ f Q q => ?_) (fun pc H4 hpc elc f4 => ?_)
      · obtain ⟨z, ez, rfl⟩ := nats_at hx
        have eg : r.getD i 0 = z := by rw [List.getD_eq_getElem?_getD, ez]; rfl
        have hz : z < T.n := R.lt z (List.mem_of_getElem? ez)
        have hT' := (hT.fr0 f3).fr0 f
        walk_at "sx"
        refine r_tmeth hT' (by decide +kernel) ?_
        walk_at "sx"
        refine ⟨A, T, (z : Int), rfl, rfl, hT', fun _ p5 H5 hp5 e5 f5 => ?_, fun w => absurd (Tb.isA_of hz) w⟩
        rw [Int.toNat_natCast] at e5
        walk_at "sx"
        refine r_lenS e5 ?_
        rw [List.length_map]
        walk_at "sx"
        refine r_newT (by show 2 ≤ 2000; decide) (fun t H6 ht et f6 => ?_)
        rw [eg] at q
        exact q _ H6 (f5.trans f6) (.tup et (.cons (.int _) (.cons (.int _) .nil)))
      rw [List.length_map, turns_list r 0 (fun _ => true) (fun a => pairD (T.wtP a)), List.filter_eq_self.mpr (fun _ _ => rfl)] at elc
      have em : r.map (fun a => pairD (T.wtP a)) = (r.map T.wtP).map pairD := by rw [List.map_map]; rfl
      rw [em] at elc
      walk_at "sx"
      refine ⟨pc, r.map T.wtP, rfl, elc, (fun z => kr2 (List.map_eq_nil_iff.mp z)), fun m hm hle => ?_⟩
      obtain ⟨z, hz, rfl⟩ := List.mem_map.mp hm
      have el := Tb.light_one (T := T) hz (fun b hb => hle _ (List.mem_map.mpr ⟨b, hb, rfl⟩))
      walk_at "sx"
      have hl3 : ((T.ringsT.take i).map T.lightT).length ≤ 8 := by rw [List.length_map, List.length_take]; omega
      refine r_append (f4.lst ep3) (by rw [List.length_map]; omega) ?_
      have fw : Fr (Only1 pf) H4 (upd H4 pf (.lst ((((T.ringsT.take i).map T.lightT).map nV) ++ [V.int (T.wtP z).2]))) := Fr.put (f4.lst ep3) (fun xs z => by cases z)
      refine ⟨_, rfl, (f3.trans f4).mut hpf, fw.old _ _ (f4.lst er3) npr, (ar3.fr f4).fr fw, ?_⟩
      rw [upd_same, List.take_succ, eri]
      show some (HO.lst (((T.ringsT.take i).map T.lightT).map nV ++ [nV z])) = _
      rw [← el]
      simp
    · obtain ⟨x2, rfl, f3, er3, ar3, ep3⟩ := pp
      rw [hvl, List.take_length] at ep3
      have ep3' : H3 pf = some (.lst (T.lights.map nV)) := ep3
      walk_at "sx"
      refine r_lcL (a := pf) (xs := T.lights.map nV) (fun _ => true) (fun i => PyData.int (T.wt (T.lights.getD i 0) : Int)) (by rw [List.length_map]; omega) (fun Q q => by walk_at "sx"; exact q) ep3' (fun _ => rfl) (fun i x H' hx f => tells_yes) (fun i x H' hx _ f Q q => ?_) (fun pc H4 hpc elc f4 => ?_)
      · obtain ⟨z, ez, rfl⟩ := nats_at hx
        have eg : T.lights.getD i 0 = z := by rw [List.getD_eq_getElem?_getD, ez]; rfl
        have hz : z < T.n := Tb.lights_lt hW z (List.mem_of_getElem? ez)
        have hT' := (hT.fr0 f3).fr0 f
        walk_at "sx"
        refine r_tmeth hT' (by decide +kernel) ?_
        walk_at "sx"
        refine ⟨A, T, (z : Int), rfl, rfl, hT', fun _ p5 H5 hp5 e5 f5 => ?_, fun w => absurd (Tb.isA_of hz) w⟩
        rw [Int.toNat_natCast] at e5
        walk_at "sx"
        refine r_lenS e5 ?_
        rw [List.length_map]
        rw [eg] at q
        exact q _ H5 f5 (.int _)
      rw [List.length_map, turns_list T.lights 0 (fun _ => true) (fun a => PyData.int (T.wt a : Int)), List.filter_eq_self.mpr (fun _ _ => rfl)] at elc
      have em : T.lights.map (fun a => PyData.int (T.wt a : Int)) = ((T.lights.map T.wt).map fun x : Nat => (x : Int)).map PyData.int := by rw [List.map_map, List.map_map]; rfl
      rw [em] at elc
      walk_at "sx"
      refine r_sumI elc ?_
      rw [sum_cast]
      walk_at "sx"
      have e4 : H4 pf = some (.lst ((T.lights.map fun x : Nat => (x : Int)).map V.int)) := by
        rw [f4.lst ep3', List.map_map]
        rfl
      refine ⟨pf, _, rfl, SqL.of e4, fun zs ps perm pw hps => ?_⟩
      have f5 : Fr No H4 (upd H4 ps (.lst (zs.map V.int))) := Fr.new hps
      walk_at "sx"
      refine r_newT (by show 2 ≤ 2000; decide) (fun t H6 ht et f6 => ?_)
      exact hq t ps zs H6 et ((f3.trans f4).fresh hps) (f6.lst upd_same) perm pw (((f3.trans f4).trans f5).trans f6)
theorem sc_t_locks : FnScope ["self"] ["self"] (defScope s_t_locks) := ⟨rfl, rfl, rfl, by decide +kernel, rfl, by decide +kernel, by decide +kernel⟩
theorem ok_t_locks (TX : Txt K mg) : OkF P w K mg base 1 (He.ma K (He.ga K "Table") "locks") ["self"] (sp_t_locks K) := by
  refine okF TX.f_t_locks sc_t_locks (fun _ _ _ _ _ _ us hl => match us, hl with | [_], _ => rfl) (fun vs H Q E h => ?_) (fun cdv A outer s H vs Q E hr h => ?_)
  · obtain ⟨_, rfl, _⟩ := h
    rfl
  · obtain ⟨x, rfl, h⟩ := h
    refine ⟨_, (pss_one (ps_ret (pe_callB (k_len (K := K) rfl) (by rfl) TX.z_len (by decide +kernel) (pa_cons (k_fld (K := K) rfl (pv 0) rfl) pa_nil)))), ?_⟩
    refine r_st (σ' := [some x]) rfl ?_
    try dsimp only [cxOf]
    obtain ⟨A, T, rfl, hT, q⟩ := h
    walk_at "sx"
    refine r_owners TX.tb hT ?_
    walk_at "sx"
    exact r_lenOwn hT q
theorem sc_t_hold_number : FnScope ["self", "lock"] ["self", "lock"] (defScope s_t_hold_number) := ⟨rfl, rfl, rfl, by decide +kernel, rfl, by decide +kernel, by decide +kernel⟩
theorem ok_t_hold_number (TX : Txt K mg) : OkF P w K mg base 2 (He.ma K (He.ga K "Table") "hold_number") ["self", "lock"] (sp_t_hold_number K) := by
  obtain ⟨⟨fd_t_need_lock, G_t_need_lock, b_t_need_lock⟩, k_t_need_lock⟩ := (ok_t_need_lock TX : OkF P w K mg base _ _ _ _)
  refine okF TX.f_t_hold_number sc_t_hold_number (fun _ _ _ _ _ _ us hl => match us, hl with | [_, _], _ => rfl) (fun vs H Q E h => ?_) (fun cdv A outer s H vs Q E hr h => ?_)
  · obtain ⟨_, _, rfl, _⟩ := h
    rfl
  · obtain ⟨x, y, rfl, h⟩ := h
    refine ⟨_, (pss_cons (ps_expr (pe_meth (pv 0) TX.c_Table TX.m_t_need_lock G_t_need_lock (hr.mono (by decide)) b_t_need_lock .nil pE (pa_cons (pv 1) pa_nil))) (pss_one (ps_ret (pe_ix (k_ixl (K := K) rfl) (k_fld (K := K) rfl (pv 0) rfl) (pv 1) (fun _ _ => rfl))))), ?_⟩
    refine r_st (σ' := [some x, some y]) rfl ?_
    try dsimp only [cxOf]
    obtain ⟨A, T, a, rfl, rfl, hT, h1, h2⟩ := h
    walk_at "sx"
    refine r_tmeth hT (by decide +kernel) ?_
    walk_at "sx"
    refine ⟨A, T, a, rfl, rfl, hT, fun g => ?_, h2⟩
    have q := h1 g
    obtain ⟨a, rfl, ha⟩ := Tb.isL_nat g
    walk_at "sx"
    refine r_times TX.tb hT ?_
    walk_at "sx"
    exact r_ixTim hT ha q
theorem sc_t_queue : FnScope ["self", "lock"] ["self", "lock"] (defScope s_t_queue) := ⟨rfl, rfl, rfl, by decide +kernel, rfl, by decide +kernel, by decide +kernel⟩
theorem ok_t_queue (TX : Txt K mg) : OkF P w K mg base 2 (He.ma K (He.ga K "Table") "queue") ["self", "lock"] (sp_t_queue K) := by
  obtain ⟨⟨fd_t_need_lock, G_t_need_lock, b_t_need_lock⟩, k_t_need_lock⟩ := (ok_t_need_lock TX : OkF P w K mg base _ _ _ _)
  refine okF TX.f_t_queue sc_t_queue (fun _ _ _ _ _ _ us hl => match us, hl with | [_, _], _ => rfl) (fun vs H Q E h => ?_) (fun cdv A outer s H vs Q E hr h => ?_)
  · obtain ⟨_, _, rfl, _⟩ := h
    rfl
  · obtain ⟨x, y, rfl, h⟩ := h
    refine ⟨_, (pss_cons (ps_expr (pe_meth (pv 0) TX.c_Table TX.m_t_need_lock G_t_need_lock (hr.mono (by decide)) b_t_need_lock .nil pE (pa_cons (pv 1) pa_nil))) (pss_one (ps_ret (pe_callTy (k_listOf (K := K) rfl) (by rfl) TX.z_list (by decide +kernel) (pa_cons (pe_ix (k_ixl (K := K) rfl) (k_fld (K := K) rfl (pv 0) rfl) (pv 1) (fun _ _ => rfl)) pa_nil))))), ?_⟩
    refine r_st (σ' := [some x, some y]) rfl ?_
    try dsimp only [cxOf]
    obtain ⟨A, T, a, rfl, rfl, hT, h1, h2⟩ := h
    walk_at "sx"
    refine r_tmeth hT (by decide +kernel) ?_
    walk_at "sx"
    refine ⟨A, T, a, rfl, rfl, hT, fun g => ?_, h2⟩
    have q := h1 g
    obtain ⟨a, rfl, ha⟩ := Tb.isL_nat g
    walk_at "sx"
    refine r_lines TX.tb hT ?_
    walk_at "sx"
    refine r_ixLin hT ha (fun b eb hb => ?_)
    walk_at "sx"
    exact ⟨b, _, rfl, .inl (SqL.of hb), r_new q⟩
theorem sc_Lheld : FnScope ["_law_t", "_law_agent", "_law_lock"] ["_law_t", "_law_agent"] (defScope s_Lheld) := ⟨rfl, rfl, rfl, by decide +kernel, rfl, by decide +kernel, by decide +kernel⟩
theorem ok_Lheld (TX : Txt K mg) : OkF P w K mg base 1 (He.ga K "_law_held") ["_law_t", "_law_agent"] (sp_Lheld K) := by
  refine okF TX.f_Lheld sc_Lheld (fun _ _ _ _ _ _ us hl => match us, hl with | [_, _], _ => rfl) (fun vs H Q E h => ?_) (fun cdv A outer s H vs Q E hr h => ?_)
  · obtain ⟨_, _, rfl, _⟩ := h
    rfl
  · obtain ⟨x, y, rfl, h⟩ := h
    refine ⟨_, (pss_one (ps_ret (pe_lc (own := [("_law_lock", 2)]) (g := gName 2) rfl sc_Lheld.nd (pi_range1 (by rfl) TX.z_range (pa_cons (pe_callB (k_len (K := K) rfl) (by rfl) TX.z_len (by decide +kernel) (pa_cons (pe_dget (hu_of hr) (pv 0) pe_str (fun _ _ => rfl)) pa_nil)) pa_nil)) (blkOk_by (N := ["_law_t", "_law_agent", "_law_lock"]) (sc := defScope s_Lheld) (by decide +kernel)) (fun _ _ _ _ _ => pg_name (i := 2) sc_Lheld.nd rfl (Or.inl rfl)) (fun _ _ _ _ _ => by exact (pts_one (pt_cmpR (op_eq) (pe_ix (k_ixl (K := K) rfl) (pe_dget (hu_of hr) (pv 0) pe_str (fun _ _ => rfl)) (pv 2) (fun _ _ => rfl)) (pv 1) (nomark _)))) (fun _ _ _ _ _ => by exact (pv 2))))), ?_⟩
    refine r_st (σ' := [some x, some y, none]) rfl ?_
    try dsimp only [cxOf]
    obtain ⟨D, T, a, rfl, rfl, hT, q⟩ := h
    walk_at "sx"
    refine r_lcR (n := T.m) (fun l => decide (T.ow l = some a)) (fun l => .int (l : Int)) (by have := hT.sz.m12; omega) (fun Q q => by walk_at "sx"; refine r_dgOwn hT ?_; walk_at "sx"; exact l_lenOwn hT q) (fun _ => rfl) (fun i H' hi f Q q => ?_) (fun i H' hi _ f Q q => ?_) (fun p H' hp hl f => ?_)
    · walk_at "sx"
      refine r_dgOwn (hT.fr0 f) ?_
      walk_at "sx"
      refine l_ixOwn (hT.fr0 f) hi ?_
      walk_at "sx"
      refine r_eq (scal_oo _ _) ?_
      walk_at "sx"
      have e : decide (oV (T.ow i) = V.int (a : Int)) = decide (T.ow i = some a) := by rw [decide_eq_decide]; exact oV_int _ _
      rw [e]
      exact q H' Fr.refl
    · walk_at "sx"
      exact q _ H' Fr.refl (.int _)
    · refine q p H' hp ?_ f
      have e : turns (fun l => decide (T.ow l = some a)) (fun l => PyData.int (l : Int)) T.m = ((T.held a).map fun l : Nat => (l : Int)).map PyData.int := by
        unfold turns Tb.held
        rw [List.map_map]
        rfl
      rw [e] at hl
      have := hl.ints
      rw [List.map_map] at this
      exact this
theorem sc_t_wait_number : FnScope ["self", "agent"] ["self", "agent"] (defScope s_t_wait_number) := ⟨rfl, rfl, rfl, by decide +kernel, rfl, by decide +kernel, by decide +kernel⟩
theorem ok_t_wait_number (TX : Txt K mg) : OkF P w K mg base 2 (He.ma K (He.ga K "Table") "wait_number") ["self", "agent"] (sp_t_wait_number K) := by
  obtain ⟨⟨fd_t_need_agent, G_t_need_agent, b_t_need_agent⟩, k_t_need_agent⟩ := (ok_t_need_agent TX : OkF P w K mg base _ _ _ _)
  refine okF TX.f_t_wait_number sc_t_wait_number (fun _ _ _ _ _ _ us hl => match us, hl with | [_, _], _ => rfl) (fun vs H Q E h => ?_) (fun cdv A outer s H vs Q E hr h => ?_)
  · obtain ⟨_, _, rfl, _⟩ := h
    rfl
  · obtain ⟨x, y, rfl, h⟩ := h
    refine ⟨_, (pss_cons (ps_expr (pe_meth (pv 0) TX.c_Table TX.m_t_need_agent G_t_need_agent (hr.mono (by decide)) b_t_need_agent .nil pE (pa_cons (pv 1) pa_nil))) (pss_one (ps_ret (pe_ix (k_ixl (K := K) rfl) (k_fld (K := K) rfl (pv 0) rfl) (pv 1) (fun _ _ => rfl))))), ?_⟩
    refine r_st (σ' := [some x, some y]) rfl ?_
    try dsimp only [cxOf]
    obtain ⟨A, T, a, rfl, rfl, hT, h1, h2⟩ := h
    walk_at "sx"
    refine r_tmeth hT (by decide +kernel) ?_
    walk_at "sx"
    refine ⟨A, T, a, rfl, rfl, hT, fun g => ?_, h2⟩
    have q := h1 g
    obtain ⟨a, rfl, ha⟩ := Tb.isA_nat g
    walk_at "sx"
    refine r_rounds TX.tb hT ?_
    walk_at "sx"
    exact r_ixRou hT ha q
theorem sc_Lis : FnScope ["_law_table_here", "_law_t", "_law_agent", "_law_told", "_law_lock"] ["_law_table_here", "_law_t"] (defScope s_Lis) := ⟨rfl, rfl, rfl, by decide +kernel, rfl, by decide +kernel, by decide +kernel⟩
theorem ok_Lis (TX : Txt K mg) : OkF P w K mg base 10 (He.ga K "_law_is") ["_law_table_here", "_law_t"] (sp_Lis K) := by
  obtain ⟨⟨fd_Lsame, G_Lsame, b_Lsame⟩, k_Lsame⟩ := (ok_Lsame TX : OkF P w K mg base _ _ _ _)
  obtain ⟨⟨fd_t_locks, G_t_locks, b_t_locks⟩, k_t_locks⟩ := (ok_t_locks TX : OkF P w K mg base _ _ _ _)
  obtain ⟨⟨fd_t_agents, G_t_agents, b_t_agents⟩, k_t_agents⟩ := (ok_t_agents TX : OkF P w K mg base _ _ _ _)
  obtain ⟨⟨fd_t_hold_number, G_t_hold_number, b_t_hold_number⟩, k_t_hold_number⟩ := (ok_t_hold_number TX : OkF P w K mg base _ _ _ _)
  obtain ⟨⟨fd_t_queue, G_t_queue, b_t_queue⟩, k_t_queue⟩ := (ok_t_queue TX : OkF P w K mg base _ _ _ _)
  obtain ⟨⟨fd_t_holder, G_t_holder, b_t_holder⟩, k_t_holder⟩ := (ok_t_holder TX : OkF P w K mg base _ _ _ _)
  obtain ⟨⟨fd_Lheld, G_Lheld, b_Lheld⟩, k_Lheld⟩ := (ok_Lheld TX : OkF P w K mg base _ _ _ _)
  obtain ⟨⟨fd_t_wait_number, G_t_wait_number, b_t_wait_number⟩, k_t_wait_number⟩ := (ok_t_wait_number TX : OkF P w K mg base _ _ _ _)
  obtain ⟨⟨fd_t_held, G_t_held, b_t_held⟩, k_t_held⟩ := (ok_t_held TX : OkF P w K mg base _ _ _ _)
  obtain ⟨⟨fd_t_waits, G_t_waits, b_t_waits⟩, k_t_waits⟩ := (ok_t_waits TX : OkF P w K mg base _ _ _ _)
  refine okF TX.f_Lis sc_Lis (fun _ _ _ _ _ _ us hl => match us, hl with | [_, _], _ => rfl) (fun vs H Q E h => ?_) (fun cdv A outer s H vs Q E hr h => ?_)
  · obtain ⟨_, _, rfl, _⟩ := h
    rfl
  · obtain ⟨x, y, rfl, h⟩ := h
    refine ⟨_, (pss_cons (ps_for pOwn rfl (pi_range1 (by rfl) TX.z_range (pa_cons (pe_callB (k_len (K := K) rfl) (by rfl) TX.z_len (by decide +kernel) (pa_cons (pe_dget (hu_of hr) (pv 1) pe_str (fun _ _ => rfl)) pa_nil)) pa_nil)) (pg_name (i := 2) sc_Lis.nd rfl (Or.inl rfl)) (pss_cons (ps_set (i := 3) sc_Lis.nd rfl (Or.inl rfl) (pe_lst (pa_cons (pe_meth (pv 0) TX.c_Table TX.m_t_waits G_t_waits (hr.mono (by decide)) b_t_waits .nil pE (pa_cons (pv 2) pa_nil)) (pa_cons (pe_meth (pv 0) TX.c_Table TX.m_t_held G_t_held (hr.mono (by decide)) b_t_held .nil pE (pa_cons (pv 2) pa_nil)) (pa_cons (pe_meth (pv 0) TX.c_Table TX.m_t_wait_number G_t_wait_number (hr.mono (by decide)) b_t_wait_number .nil pE (pa_cons (pv 2) pa_nil)) pa_nil))))) (pss_one (ps_if (pt_not (pt_val (pe_call G_Lsame (hr.mono (by decide)) (by rfl) TX.g_Lsame k_Lsame b_Lsame .nil pE (pa_cons (pv 3) (pa_cons (pe_lst (pa_cons (pe_ix (k_ixl (K := K) rfl) (pe_dget (hu_of hr) (pv 1) pe_str (fun _ _ => rfl)) (pv 2) (fun _ _ => rfl)) (pa_cons (pe_call G_Lheld (hr.mono (by decide)) (by rfl) TX.g_Lheld k_Lheld b_Lheld .nil pE (pa_cons (pv 1) (pa_cons (pv 2) pa_nil))) (pa_cons (pe_ix (k_ixl (K := K) rfl) (pe_dget (hu_of hr) (pv 1) pe_str (fun _ _ => rfl)) (pv 2) (fun _ _ => rfl)) pa_nil)))) pa_nil))))) (pss_one (ps_ret pe_bl)) pss_nil)))) (pss_cons (ps_for pOwn rfl (pi_range1 (by rfl) TX.z_range (pa_cons (pe_callB (k_len (K := K) rfl) (by rfl) TX.z_len (by decide +kernel) (pa_cons (pe_dget (hu_of hr) (pv 1) pe_str (fun _ _ => rfl)) pa_nil)) pa_nil)) (pg_name (i := 4) sc_Lis.nd rfl (Or.inl rfl)) (pss_cons (ps_set (i := 3) sc_Lis.nd rfl (Or.inl rfl) (pe_lst (pa_cons (pe_meth (pv 0) TX.c_Table TX.m_t_holder G_t_holder (hr.mono (by decide)) b_t_holder .nil pE (pa_cons (pv 4) pa_nil)) (pa_cons (pe_meth (pv 0) TX.c_Table TX.m_t_queue G_t_queue (hr.mono (by decide)) b_t_queue .nil pE (pa_cons (pv 4) pa_nil)) (pa_cons (pe_meth (pv 0) TX.c_Table TX.m_t_hold_number G_t_hold_number (hr.mono (by decide)) b_t_hold_number .nil pE (pa_cons (pv 4) pa_nil)) pa_nil))))) (pss_one (ps_if (pt_not (pt_val (pe_call G_Lsame (hr.mono (by decide)) (by rfl) TX.g_Lsame k_Lsame b_Lsame .nil pE (pa_cons (pv 3) (pa_cons (pe_lst (pa_cons (pe_ix (k_ixl (K := K) rfl) (pe_dget (hu_of hr) (pv 1) pe_str (fun _ _ => rfl)) (pv 4) (fun _ _ => rfl)) (pa_cons (pe_ix (k_ixl (K := K) rfl) (pe_dget (hu_of hr) (pv 1) pe_str (fun _ _ => rfl)) (pv 4) (fun _ _ => rfl)) (pa_cons (pe_ix (k_ixl (K := K) rfl) (pe_dget (hu_of hr) (pv 1) pe_str (fun _ _ => rfl)) (pv 4) (fun _ _ => rfl)) pa_nil)))) pa_nil))))) (pss_one (ps_ret pe_bl)) pss_nil)))) (pss_one (ps_ret (pe_call G_Lsame (hr.mono (by decide)) (by rfl) TX.g_Lsame k_Lsame b_Lsame .nil pE (pa_cons (pe_lst (pa_cons (pe_meth0 (pv 0) TX.c_Table TX.m_t_agents G_t_agents (hr.mono (by decide)) b_t_agents .nil pE) (pa_cons (pe_meth0 (pv 0) TX.c_Table TX.m_t_locks G_t_locks (hr.mono (by decide)) b_t_locks .nil pE) pa_nil))) (pa_cons (pe_lst (pa_cons (pe_callB (k_len (K := K) rfl) (by rfl) TX.z_len (by decide +kernel) (pa_cons (pe_dget (hu_of hr) (pv 1) pe_str (fun _ _ => rfl)) pa_nil)) (pa_cons (pe_callB (k_len (K := K) rfl) (by rfl) TX.z_len (by decide +kernel) (pa_cons (pe_dget (hu_of hr) (pv 1) pe_str (fun _ _ => rfl)) pa_nil)) pa_nil))) pa_nil))))))), ?_⟩
    refine r_st (σ' := [some x, some y, none, none, none]) rfl ?_
    try dsimp only [cxOf]
    obtain ⟨A, D, T, rfl, rfl, hT, hD, hW, hq⟩ := h
    walk_at "sx"
    refine r_forR (n := T.n) (by have := hT.sz.n8; omega) (fun Q q => by walk_at "sx"; refine r_dgWan hD ?_; walk_at "sx"; exact l_lenWan hD q) (fun i σ' H' => ∃ c d e, σ' = [some (.ref A.p), some (.ref D.d), c, d, e] ∧ Fr No H H') ⟨_, _, _, rfl, Fr.refl⟩ (fun i σ' H1 hi p => ?_) (fun σ' H' p => ?_)
    · obtain ⟨c, d, e, rfl, f1⟩ := p
      have hT1 := hT.fr0 f1
      have hD1 := hD.fr0 f1
      walk_at "sx"
      refine r_tmeth hT1 (by decide +kernel) ?_
      walk_at "sx"
      refine ⟨A, T, (i : Int), rfl, rfl, hT1, fun _ => ?_, fun z => absurd (Tb.isA_of hi) z⟩
      walk_at "sx"
      refine r_tmeth hT1 (by decide +kernel) ?_
      walk_at "sx"
      refine ⟨A, T, (i : Int), rfl, rfl, hT1, fun _ p2 H2 hp2 e2 f2 => ?_, fun z => absurd (Tb.isA_of hi) z⟩
      walk_at "sx"
      have hT2 := hT1.fr0 f2
      refine r_tmeth hT2 (by decide +kernel) ?_
      walk_at "sx"
      refine ⟨A, T, (i : Int), rfl, rfl, hT2, fun _ => ?_, fun z => absurd (Tb.isA_of hi) z⟩
      rw [Int.toNat_natCast] at e2 ⊢
      walk_at "sx"
      refine r_newL (by show 3 ≤ 2000; decide) (fun p3 H3 hp3 e3 f3 => ?_)
      have hD3 := hD1.fr0 (f2.trans f3)
      walk_at "sx"
      refine r_dgWan hD3 ?_
      walk_at "sx"
      refine l_ixWan hD3 hi ?_
      walk_at "sx"
      refine ⟨D, T, i, rfl, rfl, hD3, fun p4 H4 hp4 e4 f4 => ?_⟩
      have hD4 := hD3.fr0 f4
      walk_at "sx"
      refine r_dgRou hD4 ?_
      walk_at "sx"
      refine l_ixRou hD4 hi ?_
      walk_at "sx"
      refine r_newL (by show 3 ≤ 2000; decide) (fun p5 H5 hp5 e5 f5 => ?_)
      walk_at "sx"
      have hl : (T.held i).length ≤ 2000 := by have := Tb.held_len (T := T) (a := i); have := hT.sz.m12; omega
      refine ⟨.list [oD (T.wa i), .list ((T.held i).map fun x : Nat => PyData.int (x : Int)), .int (T.ro i : Int)], ?_, ?_, ?_, fun H6 f6 => ?_⟩
      · exact .lst ((f4.trans f5).lst e3) (by show 3 ≤ 2000; decide) (.cons (dd_o _) (.cons (dd_natsL (((f3.trans f4).trans f5).lst e2) hl) (.cons (.int _) .nil)))
      · exact .lst e5 (by show 3 ≤ 2000; decide) (.cons (dd_o _) (.cons (dd_natsL (f5.lst e4) hl) (.cons (.int _) .nil)))
      · simp only [PyData.depth, PyData.depthAll, oD_depth, nats_depth]
        decide
      walk_at "sx"
      exact ⟨_, _, _, rfl, ((((f1.trans f2).trans f3).trans f4).trans f5).trans f6⟩
    obtain ⟨c, d, e, rfl, f0⟩ := p
    have hD0 := hD.fr0 f0
    walk_at "sx"
    refine r_forR (n := T.m) (by have := hT.sz.m12; omega) (fun Q q => by walk_at "sx"; refine r_dgOwn hD0 ?_; walk_at "sx"; exact l_lenOwn hD0 q) (fun i σ' H' => ∃ c d e, σ' = [some (.ref A.p), some (.ref D.d), c, d, e] ∧ Fr No H H') ⟨_, _, _, rfl, f0⟩ (fun i σ' H1 hi p => ?_) (fun σ' H' p => ?_)
    · obtain ⟨c, d, e, rfl, f1⟩ := p
      have hT1 := hT.fr0 f1
      have hD1 := hD.fr0 f1
      walk_at "sx"
      refine r_tmeth hT1 (by decide +kernel) ?_
      walk_at "sx"
      refine ⟨A, T, (i : Int), rfl, rfl, hT1, fun _ => ?_, fun z => absurd (Tb.isL_of hi) z⟩
      walk_at "sx"
      refine r_tmeth hT1 (by decide +kernel) ?_
      walk_at "sx"
      refine ⟨A, T, (i : Int), rfl, rfl, hT1, fun _ p2 H2 hp2 e2 f2 => ?_, fun z => absurd (Tb.isL_of hi) z⟩
      walk_at "sx"
      have hT2 := hT1.fr0 f2
      refine r_tmeth hT2 (by decide +kernel) ?_
      walk_at "sx"
      refine ⟨A, T, (i : Int), rfl, rfl, hT2, fun _ => ?_, fun z => absurd (Tb.isL_of hi) z⟩
      rw [Int.toNat_natCast] at e2 ⊢
      walk_at "sx"
      refine r_newL (by show 3 ≤ 2000; decide) (fun p3 H3 hp3 e3 f3 => ?_)
      have hD3 := hD1.fr0 (f2.trans f3)
      walk_at "sx"
      refine r_dgOwn hD3 ?_
      walk_at "sx"
      refine l_ixOwn hD3 hi ?_
      walk_at "sx"
      refine r_dgLin hD3 ?_
      walk_at "sx"
      refine l_ixLin hD3 hi (fun p4 e4 _ => ?_)
      walk_at "sx"
      refine r_dgTim hD3 ?_
      walk_at "sx"
      refine l_ixTim hD3 hi ?_
      walk_at "sx"
      refine r_newL (by show 3 ≤ 2000; decide) (fun p5 H5 hp5 e5 f5 => ?_)
      walk_at "sx"
      have hl : (T.ln i).length ≤ 2000 := by have := hW.len i; omega
      refine ⟨.list [oD (T.ow i), .list ((T.ln i).map fun x : Nat => PyData.int (x : Int)), .int (T.ti i : Int)], ?_, ?_, ?_, fun H6 f6 => ?_⟩
      · exact .lst (f5.lst e3) (by show 3 ≤ 2000; decide) (.cons (dd_o _) (.cons (dd_natsL ((f3.trans f5).lst e2) hl) (.cons (.int _) .nil)))
      · exact .lst e5 (by show 3 ≤ 2000; decide) (.cons (dd_o _) (.cons (dd_natsL (f5.lst e4) hl) (.cons (.int _) .nil)))
      · simp only [PyData.depth, PyData.depthAll, oD_depth, nats_depth]
        decide
      walk_at "sx"
      exact ⟨_, _, _, rfl, (((f1.trans f2).trans f3).trans f5).trans f6⟩
    obtain ⟨c, d, e, rfl, f1⟩ := p
    have hT1 := hT.fr0 f1
    walk_at "sx"
    refine r_tmeth hT1 (by decide +kernel) ?_
    walk_at "sx"
    refine ⟨A, T, rfl, hT1, ?_⟩
    walk_at "sx"
    refine r_tmeth hT1 (by decide +kernel) ?_
    walk_at "sx"
    refine ⟨A, T, rfl, hT1, ?_⟩
    walk_at "sx"
    refine r_newL (by show 2 ≤ 2000; decide) (fun p2 H2 hp2 e2 f2 => ?_)
    have hD2 := hD.fr0 (f1.trans f2)
    walk_at "sx"
    refine r_dgWan hD2 ?_
    walk_at "sx"
    refine l_lenWan hD2 ?_
    walk_at "sx"
    refine r_dgOwn hD2 ?_
    walk_at "sx"
    refine l_lenOwn hD2 ?_
    walk_at "sx"
    refine r_newL (by show 2 ≤ 2000; decide) (fun p3 H3 hp3 e3 f3 => ?_)
    walk_at "sx"
    refine ⟨.list [.int (T.n : Int), .int (T.m : Int)], ?_, ?_, ?_, fun H4 f4 => ?_⟩
    · exact .lst (f3.lst e2) (by show 2 ≤ 2000; decide) (.cons (.int _) (.cons (.int _) .nil))
    · exact .lst e3 (by show 2 ≤ 2000; decide) (.cons (.int _) (.cons (.int _) .nil))
    · simp only [PyData.depth, PyData.depthAll]
      decide
    exact hq H4 (((f1.trans f2).trans f3).trans f4)
theorem sc_Ltable : FnScope ["_law_agents", "_law_locks", "_law_found", "_law_lock"] ["_law_agents", "_law_locks"] (defScope s_Ltable) := ⟨rfl, rfl, rfl, by decide +kernel, rfl, by decide +kernel, by decide +kernel⟩
theorem ok_Ltable (TX : Txt K mg) : OkF P w K mg base 1 (He.ga K "_law_table") ["_law_agents", "_law_locks"] (sp_Ltable K) := by
  refine okF TX.f_Ltable sc_Ltable (fun _ _ _ _ _ _ us hl => match us, hl with | [_, _], _ => rfl) (fun vs H Q E h => ?_) (fun cdv A outer s H vs Q E hr h => ?_)
  · obtain ⟨_, _, rfl, _⟩ := h
    rfl
  · obtain ⟨x, y, rfl, h⟩ := h
    refine ⟨_, (pss_cons (ps_set (i := 2) sc_Ltable.nd rfl (Or.inl rfl) (pe_disp (pps_cons pe_str (pe_op op_rep (pe_lst (pa_cons pe_non pa_nil)) (pv 1)) (pps_cons pe_str (pe_lc (own := [("_law_lock", 3)]) (g := gName 3) rfl sc_Ltable.nd (pi_range1 (by rfl) TX.z_range (pa_cons (pv 1) pa_nil)) (blkOk_by (N := ["_law_agents", "_law_locks", "_law_found", "_law_lock"]) (sc := defScope s_Ltable) (by decide +kernel)) (fun _ _ _ _ _ => pg_name (i := 3) sc_Ltable.nd rfl (Or.inl rfl)) (fun _ _ _ _ _ => by exact pts_nil) (fun _ _ _ _ _ => by exact (pe_lst pa_nil))) (pps_cons pe_str (pe_op op_rep (pe_lst (pa_cons pe_int pa_nil)) (pv 1)) pps_nil))) (by rfl) (by rfl) (fun z => by cases z) (by decide))) (pss_cons (ps_expr (pe_bm PySem.F.plainAttrs_dict PySem.F.slot_dict_update PySem.F.type_dict_update mt_update (pv 2) (pa_cons (pe_disp (pps_cons pe_str (pe_op op_rep (pe_lst (pa_cons pe_non pa_nil)) (pv 0)) (pps_cons pe_str (pe_op op_rep (pe_lst (pa_cons pe_int pa_nil)) (pv 0)) pps_nil)) (by rfl) (by rfl) (fun z => by cases z) (by decide)) pa_nil))) (pss_one (ps_ret (pv 2))))), ?_⟩
    refine r_st (σ' := [some x, some y, none, none]) rfl ?_
    try dsimp only [cxOf]
    obtain ⟨n, m, rfl, rfl, hs, bad, hb, h⟩ := h
    have hm : m ≤ 12 := by have := hs.m12; rw [Tb.new_m] at this; exact this
    have hn : n ≤ 8 := by have := hs.n8; rw [Tb.new_n] at this; exact this
    walk_at "sx"
    refine r_disp (fun p H1 hp e1 f1 => ?_)
    walk_at "sx"
    refine r_newL (by show 1 ≤ 2000; decide) (fun t1 H2 ht1 et1 f2 => ?_)
    walk_at "sx"
    refine r_rep et1 (by omega) (fun ow H3 how eow f3 => ?_)
    walk_at "sx"
    refine r_lcMR (n := m) (fun _ => []) (by omega) (fun Q q => by walk_at "sx"; exact q) (fun _ => rfl) (fun i H' hi f Q q => by walk_at "sx"; exact r_newL (by show 0 ≤ 2000; decide) q) (fun li ls H4 hli hll w => ?_)
    walk_at "sx"
    refine r_newL (by show 1 ≤ 2000; decide) (fun t2 H5 ht2 et2 f5 => ?_)
    walk_at "sx"
    refine r_rep et2 (by omega) (fun ti H6 hti eti f6 => ?_)
    walk_at "sx"
    have g6 : Fr No H1 H6 := (((f2.trans f3).trans w.fr).trans f5).trans f6
    refine r_dispE [(.inr "owners", .ref ow), (.inr "lines", .ref li), (.inr "times", .ref ti)] (g6.lst e1) rfl (by show 3 ≤ 15; decide) (fun H7 e7 f7 => ?_)
    walk_at "sx"
    refine r_tyD e7 ?_
    walk_at "sx"
    refine r_disp (fun p2 H8 hp2 e8 f8 => ?_)
    walk_at "sx"
    refine r_newL (by show 1 ≤ 2000; decide) (fun t3 H9 ht3 et3 f9 => ?_)
    walk_at "sx"
    refine r_rep et3 (by omega) (fun wa H10 hwa ewa f10 => ?_)
    walk_at "sx"
    refine r_newL (by show 1 ≤ 2000; decide) (fun t4 H11 ht4 et4 f11 => ?_)
    walk_at "sx"
    refine r_rep et4 (by omega) (fun ro H12 hro ero f12 => ?_)
    walk_at "sx"
    have g12 : Fr No H8 H12 := (((f9.trans f10).trans f11).trans f12)
    refine r_dispE [(.inr "wants", .ref wa), (.inr "rounds", .ref ro)] (g12.lst e8) rfl (by show 2 ≤ 15; decide) (fun H13 e13 f13 => ?_)
    walk_at "sx"
    have np2 : p ≠ p2 := fun z => by rw [← z, e7] at hp2; cases hp2
    have e12 : H12 p = some (.dK [(.inr "owners", .ref ow), (.inr "lines", .ref li), (.inr "times", .ref ti)]) := g12.lst (f8.lst e7)
    refine r_updD (f13.old _ _ e12 np2) e13 np2 (by show 3 + 2 ≤ 2000; decide) (fun H14 e14 f14 => ?_)
    walk_at "sx"
    -- where all stands
    have k2 : Fr No H H2 := f1.trans f2
    have k3 : Fr No H H3 := k2.trans f3
    have k4 : Fr No H H4 := k3.trans w.fr
    have k5 : Fr No H H5 := k4.trans f5
    have k6 : Fr No H H6 := k5.trans f6
    have k7 : Fr No H H7 := k6.mutO f7 hp
    have k12 : Fr No H H12 := k7.trans (f8.trans g12)
    have k8 : Fr No H H8 := k7.trans f8
    have k13 : Fr No H H13 := k12.mutO f13 (k7.fresh hp2)
    have k14 : Fr No H H14 := k13.mutO f14 hp
    have q7 : ∀ b o, H6 b = some o → b ≠ p → H7 b = some o := fun b o e n => f7.old _ _ e n
    have q14 : ∀ b o, H12 b = some o → b ≠ p → b ≠ p2 → H14 b = some o := fun b o e n1 n2 => f14.old _ _ (f13.old _ _ e n2) n1
    have l7 : ∀ b o, H7 b = some o → b ≠ p → H14 b = some o := fun b o e n => q14 b o (g12.lst (f8.lst e)) n (fun z => by rw [z, hp2] at e; cases e)
    have l6 : ∀ b o, H6 b = some o → b ≠ p → H14 b = some o := fun b o e n => l7 b o (q7 b o e n) n
    have now : ow ≠ p := ne_fresh (f2.lst e1) how
    have nli : li ≠ p := ne_fresh ((f2.trans f3).lst e1) hli
    have nti : ti ≠ p := ne_fresh ((((f2.trans f3).trans w.fr).trans f5).lst e1) hti
    have nwa : wa ≠ p := ne_fresh (f9.lst (f8.lst e7)) hwa
    have nro : ro ≠ p := ne_fresh (((f9.trans f10).trans f11).lst (f8.lst e7)) hro
    have nwa2 : wa ≠ p2 := ne_fresh (f9.lst e8) hwa
    have nro2 : ro ≠ p2 := ne_fresh (((f9.trans f10).trans f11).lst e8) hro
    have a_ow : H6 ow = some (.lst (List.replicate m .non)) := (w.fr.trans (f5.trans f6)).lst eow
    have a_li : H6 li = some (.lst (ls.map V.ref)) := (f5.trans f6).lst w.at_
    have b_ow : H8 ow = some (.lst (List.replicate m .non)) := f8.lst (q7 _ _ a_ow now)
    have b_li : H8 li = some (.lst (ls.map V.ref)) := f8.lst (q7 _ _ a_li nli)
    have b_ti : H8 ti = some (.lst (List.replicate m (.int 0))) := f8.lst (q7 _ _ eti nti)
    have n1 : ow ≠ li := (ne_fresh eow hli).symm
    have n2 : ow ≠ ti := (ne_fresh ((w.fr.trans f5).lst eow) hti).symm
    have n3 : li ≠ ti := (ne_fresh (f5.lst w.at_) hti).symm
    have n4 : ow ≠ wa := (ne_fresh (f9.lst b_ow) hwa).symm
    have n5 : li ≠ wa := (ne_fresh (f9.lst b_li) hwa).symm
    have n6 : ti ≠ wa := (ne_fresh (f9.lst b_ti) hwa).symm
    have g11 : Fr No H8 H11 := (f9.trans f10).trans f11
    have n7 : ow ≠ ro := (ne_fresh (g11.lst b_ow) hro).symm
    have n8 : li ≠ ro := (ne_fresh (g11.lst b_li) hro).symm
    have n9 : ti ≠ ro := (ne_fresh (g11.lst b_ti) hro).symm
    have n10 : wa ≠ ro := (ne_fresh (f11.lst ewa) hro).symm
    have k11 : Fr No H H11 := k8.trans g11
    have k9 : Fr No H H9 := k8.trans f9
    have nin : ∀ b, LA.has ⟨p, ow, li, ti, wa, ro, fun _ => True⟩ b → H b = none := fun b hb => by
      unfold LA.has at hb
      simp only [List.mem_cons, List.not_mem_nil, or_false] at hb
      rcases hb with e | e | e | e | e | e
      · rw [e]; exact hp
      · rw [e]; exact k2.fresh how
      · rw [e]; exact k3.fresh hli
      · rw [e]; exact k5.fresh hti
      · rw [e]; exact k9.fresh hwa
      · rw [e]; exact k11.fresh hro
    refine h ⟨p, ow, li, ti, wa, ro, fun b => LA.has ⟨p, ow, li, ti, wa, ro, fun _ => True⟩ b ∨ bad b⟩ H14 ⟨e14, ?_, ?_, ?_, ?_, ⟨ls, l6 _ _ a_li nli, ?_, fun i a e => ?_⟩, ?_, fun b hb' z => ?_, fun b hb' => .inl hb', hs⟩ k14 nin (fun b => Iff.rfl)
    · have := l6 _ _ a_ow now
      rw [this]
      simp [Tb.new, oV]
    · have := l6 _ _ eti nti
      rw [this]
      simp [Tb.new, nV]
    · have := q14 _ _ ((f11.trans f12).lst ewa) nwa nwa2
      rw [this]
      simp [Tb.new, oV]
    · have := q14 _ _ ero nro nro2
      rw [this]
      simp [Tb.new, nV]
    · rw [hll]
      simp [Tb.new]
    · obtain ⟨w1, w2⟩ := w.each i a e
      have na : H a = none := k3.fresh w2
      have nap : a ≠ p := ne_fresh ((f2.trans f3).lst e1) w2
      have e6 : H6 a = some (.lst []) := (f5.trans f6).lst w1
      refine ⟨by rw [Tb.new_ln]; exact l6 _ _ e6 nap, fun z => ?_⟩
      have nls : a ≠ li := fun z => by
        have := w.nd
        rw [List.nodup_cons] at this
        exact this.1 (z ▸ List.mem_of_getElem? e)
      rcases z with z | z
      · unfold LA.has at z
        simp only [List.mem_cons, List.not_mem_nil, or_false] at z
        rcases z with e' | e' | e' | e' | e' | e'
        · exact nap e'
        · rw [e', eow] at w2; cases w2
        · exact nls e'
        · rw [e', f5.fresh hti] at w1; cases w1
        · have := f9.lst (f8.lst (q7 _ _ e6 nap))
          rw [e', hwa] at this
          cases this
        · have := g11.lst (f8.lst (q7 _ _ e6 nap))
          rw [e', hro] at this
          cases this
      · exact hb a z na
    · simp only [List.nodup_cons, List.mem_cons, not_or, List.not_mem_nil, or_false, not_false_eq_true, true_and, List.nodup_nil, and_true]
      exact ⟨⟨now.symm, nli.symm, nti.symm, nwa.symm, nro.symm⟩, ⟨n1, n2, n4, n7⟩, ⟨n3, n5, n8⟩, ⟨n6, n9⟩, n10⟩
    · rcases hb' with hb' | hb'
      · unfold LA.has at hb'
        simp only [List.mem_cons, List.not_mem_nil, or_false] at hb'
        rcases hb' with e | e | e | e | e | e
        · rw [e, e14] at z; cases z
        · rw [e, l6 _ _ a_ow now] at z; cases z
        · rw [e, l6 _ _ a_li nli] at z; cases z
        · rw [e, l6 _ _ eti nti] at z; cases z
        · rw [e, q14 _ _ ((f11.trans f12).lst ewa) nwa nwa2] at z; cases z
        · rw [e, q14 _ _ ero nro nro2] at z; cases z
      · exact hb b hb' (k14.fresh z)
theorem sc_t_take : FnScope ["self", "agent", "lock"] ["self", "agent", "lock"] (defScope s_t_take) := ⟨rfl, rfl, rfl, by decide +kernel, rfl, by decide +kernel, by decide +kernel⟩
theorem ok_t_take (TX : Txt K mg) : OkF P w K mg base 1 (He.ma K (He.ga K "Table") "take") ["self", "agent", "lock"] (sp_t_take K) := by
  refine okF TX.f_t_take sc_t_take (fun _ _ _ _ _ _ us hl => match us, hl with | [_, _, _], _ => rfl) (fun vs H Q E h => ?_) (fun cdv A outer s H vs Q E hr h => ?_)
  · obtain ⟨_, _, _, rfl, _⟩ := h
    rfl
  · obtain ⟨x, y, z, rfl, h⟩ := h
    refine ⟨_, (pss_cons (ps_asg (pv 1) (pg_sub (k_fld (K := K) rfl (pv 0) rfl) (pv 2) set_list)) (pss_one (ps_asg (pe_op op_add (pe_ix (k_ixl (K := K) rfl) (k_fld (K := K) rfl (pv 0) rfl) (pv 2) (fun _ _ => rfl)) pe_int) (pg_sub (k_fld (K := K) rfl (pv 0) rfl) (pv 2) set_list)))), ?_⟩
    refine r_st (σ' := [some x, some y, some z]) rfl ?_
    try dsimp only [cxOf]
    obtain ⟨A, T, a, l, rfl, rfl, rfl, hT, hl, h⟩ := h
    walk_at "sx"
    refine r_owners TX.tb hT ?_
    walk_at "sx"
    refine r_setOwn hT hl (some a) (fun H1 hT1 f1 => ?_)
    have hl1 : l < ({ T with own := T.own.set l (some a) } : Tb).m := by show l < (T.own.set l (some a)).length; rw [List.length_set]; exact hl
    walk_at "sx"
    refine r_times TX.tb hT1 ?_
    walk_at "sx"
    refine r_ixTim hT1 hl1 ?_
    walk_at "sx"
    refine r_times TX.tb hT1 ?_
    walk_at "sx"
    exact r_setTim hT1 hl1 (T.ti l + 1) (fun H2 hT2 f2 => h H2 hT2 (f1.trans f2))
theorem sc_t_need_free_to : FnScope ["self", "agent"] ["self", "agent"] (defScope s_t_need_free_to) := ⟨rfl, rfl, rfl, by decide +kernel, rfl, by decide +kernel, by decide +kernel⟩
theorem ok_t_need_free_to (TX : Txt K mg) : OkF P w K mg base 1 (He.ma K (He.ga K "Table") "need_free_to") ["self", "agent"] (sp_t_need_free_to K) := by
  refine okF TX.f_t_need_free_to sc_t_need_free_to (fun _ _ _ _ _ _ us hl => match us, hl with | [_, _], _ => rfl) (fun vs H Q E h => ?_) (fun cdv A outer s H vs Q E hr h => ?_)
  · obtain ⟨_, _, rfl, _⟩ := h
    rfl
  · obtain ⟨x, y, rfl, h⟩ := h
    refine ⟨_, (pss_one (ps_if (pt_cmpR (op_notN) (pe_ix (k_ixl (K := K) rfl) (k_fld (K := K) rfl (pv 0) rfl) (pv 1) (fun _ _ => rfl)) pe_non (nomark _)) (pss_one (ps_raise rfl (takes_of rfl rfl rfl rfl) (pmk_own PySem.F.excBase_ValueError TX.e_Waits.ex TX.e_Waits.g TX.e_Waits.k (raises_own TX.e_Waits.b TX.e_Waits.t) rfl))) pss_nil)), ?_⟩
    refine r_st (σ' := [some x, some y]) rfl ?_
    try dsimp only [cxOf]
    obtain ⟨A, T, a, rfl, rfl, hT, ha, h1, h2⟩ := h
    walk_at "sx"
    refine r_wants TX.tb hT ?_
    walk_at "sx"
    refine r_ixWan hT ha ?_
    walk_at "sx"
    refine ⟨rfl, ?_⟩
    walk_at "sx"
    refine r_decN (fun g => ?_) (fun g => ?_)
    · exact h2 (fun z => g ((oV_non _).mpr z))
    · walk_at "sx"
      exact h1 ((oV_non _).mp g)
theorem sc_t_need_both : FnScope ["self", "agent", "lock"] ["self", "agent", "lock"] (defScope s_t_need_both) := ⟨rfl, rfl, rfl, by decide +kernel, rfl, by decide +kernel, by decide +kernel⟩
theorem ok_t_need_both (TX : Txt K mg) : OkF P w K mg base 2 (He.ma K (He.ga K "Table") "need_both") ["self", "agent", "lock"] (sp_t_need_both K) := by
  obtain ⟨⟨fd_t_need_lock, G_t_need_lock, b_t_need_lock⟩, k_t_need_lock⟩ := (ok_t_need_lock TX : OkF P w K mg base _ _ _ _)
  obtain ⟨⟨fd_t_need_agent, G_t_need_agent, b_t_need_agent⟩, k_t_need_agent⟩ := (ok_t_need_agent TX : OkF P w K mg base _ _ _ _)
  refine okF TX.f_t_need_both sc_t_need_both (fun _ _ _ _ _ _ us hl => match us, hl with | [_, _, _], _ => rfl) (fun vs H Q E h => ?_) (fun cdv A outer s H vs Q E hr h => ?_)
  · obtain ⟨_, _, _, rfl, _⟩ := h
    rfl
  · obtain ⟨x, y, z, rfl, h⟩ := h
    refine ⟨_, (pss_cons (ps_expr (pe_meth (pv 0) TX.c_Table TX.m_t_need_agent G_t_need_agent (hr.mono (by decide)) b_t_need_agent .nil pE (pa_cons (pv 1) pa_nil))) (pss_one (ps_expr (pe_meth (pv 0) TX.c_Table TX.m_t_need_lock G_t_need_lock (hr.mono (by decide)) b_t_need_lock .nil pE (pa_cons (pv 2) pa_nil))))), ?_⟩
    refine r_st (σ' := [some x, some y, some z]) rfl ?_
    try dsimp only [cxOf]
    obtain ⟨A, T, a, l, rfl, rfl, rfl, hT, h1, h2⟩ := h
    walk_at "sx"
    refine r_tmeth hT (by decide +kernel) ?_
    walk_at "sx"
    refine ⟨A, T, a, rfl, rfl, hT, fun ga => ?_, fun ga => h2 _ (by unfold Tb.fault; rw [if_neg ga])⟩
    walk_at "sx"
    refine r_tmeth hT (by decide +kernel) ?_
    walk_at "sx"
    refine ⟨A, T, l, rfl, rfl, hT, fun gl => ?_, fun gl => h2 _ (by unfold Tb.fault; rw [if_pos ga, if_neg gl])⟩
    exact h1 (by unfold Tb.fault; rw [if_pos ga, if_pos gl])
theorem sc_t_ask : FnScope ["self", "agent", "lock"] ["self", "agent", "lock"] (defScope s_t_ask) := ⟨rfl, rfl, rfl, by decide +kernel, rfl, by decide +kernel, by decide +kernel⟩
theorem ok_t_ask (TX : Txt K mg) : OkF P w K mg base 3 (He.ma K (He.ga K "Table") "ask") ["self", "agent", "lock"] (sp_t_ask K) := by
  obtain ⟨⟨fd_t_take, G_t_take, b_t_take⟩, k_t_take⟩ := (ok_t_take TX : OkF P w K mg base _ _ _ _)
  obtain ⟨⟨fd_t_need_free_to, G_t_need_free_to, b_t_need_free_to⟩, k_t_need_free_to⟩ := (ok_t_need_free_to TX : OkF P w K mg base _ _ _ _)
  obtain ⟨⟨fd_t_need_both, G_t_need_both, b_t_need_both⟩, k_t_need_both⟩ := (ok_t_need_both TX : OkF P w K mg base _ _ _ _)
  refine okF TX.f_t_ask sc_t_ask (fun _ _ _ _ _ _ us hl => match us, hl with | [_, _, _], _ => rfl) (fun vs H Q E h => ?_) (fun cdv A outer s H vs Q E hr h => ?_)
  · obtain ⟨_, _, _, rfl, _⟩ := h
    rfl
  · obtain ⟨x, y, z, rfl, h⟩ := h
    refine ⟨_, (pss_cons (ps_expr (pe_meth (pv 0) TX.c_Table TX.m_t_need_both G_t_need_both (hr.mono (by decide)) b_t_need_both .nil pE (pa_cons (pv 1) (pa_cons (pv 2) pa_nil)))) (pss_cons (ps_expr (pe_meth (pv 0) TX.c_Table TX.m_t_need_free_to G_t_need_free_to (hr.mono (by decide)) b_t_need_free_to .nil pE (pa_cons (pv 1) pa_nil))) (pss_cons (ps_if (pt_cmpR (op_eq) (pe_ix (k_ixl (K := K) rfl) (k_fld (K := K) rfl (pv 0) rfl) (pv 2) (fun _ _ => rfl)) (pv 1) (nomark _)) (pss_one (ps_raise rfl (takes_of rfl rfl rfl rfl) (pmk_own PySem.F.excBase_ValueError TX.e_Holds.ex TX.e_Holds.g TX.e_Holds.k (raises_own TX.e_Holds.b TX.e_Holds.t) rfl))) pss_nil) (pss_cons (ps_if (pt_cmpR (op_isN) (pe_ix (k_ixl (K := K) rfl) (k_fld (K := K) rfl (pv 0) rfl) (pv 2) (fun _ _ => rfl)) pe_non (nomark _)) (pss_cons (ps_expr (pe_meth (pv 0) TX.c_Table TX.m_t_take G_t_take (hr.mono (by decide)) b_t_take .nil pE (pa_cons (pv 1) (pa_cons (pv 2) pa_nil)))) (pss_one (ps_ret pe_bl))) pss_nil) (pss_cons (ps_expr (pe_bm PySem.F.plainAttrs_list PySem.F.slot_list_append PySem.F.type_list_append mt_append (pe_ix (k_ixl (K := K) rfl) (k_fld (K := K) rfl (pv 0) rfl) (pv 2) (fun _ _ => rfl)) (pa_cons (pv 1) pa_nil))) (pss_cons (ps_asg (pv 2) (pg_sub (k_fld (K := K) rfl (pv 0) rfl) (pv 1) set_list)) (pss_cons (ps_asg (pe_op op_add (pe_ix (k_ixl (K := K) rfl) (k_fld (K := K) rfl (pv 0) rfl) (pv 1) (fun _ _ => rfl)) pe_int) (pg_sub (k_fld (K := K) rfl (pv 0) rfl) (pv 1) set_list)) (pss_one (ps_ret pe_bl))))))))), ?_⟩
    refine r_st (σ' := [some x, some y, some z]) rfl ?_
    try dsimp only [cxOf]
    obtain ⟨A, T, a, l, rfl, rfl, rfl, hT, hW, he, ho⟩ := h
    walk_at "sx"
    refine r_tmeth hT (by decide +kernel) ?_
    walk_at "sx"
    refine ⟨A, T, a, l, rfl, rfl, rfl, hT, fun g => ?_, fun w g => he w T (Tb.askR_err g)⟩
    obtain ⟨a, l, rfl, rfl, ha, hl⟩ := Tb.fault_none g
    have eR := Tb.askR_nat ha hl
    walk_at "sx"
    refine r_tmeth hT (by decide +kernel) ?_
    walk_at "sx"
    refine ⟨A, T, a, rfl, rfl, hT, ha, fun gw => ?_, fun gw => he _ T (by rw [eR, if_pos gw])⟩
    rw [if_neg (fun z => z gw)] at eR
    walk_at "sx"
    refine r_owners TX.tb hT ?_
    walk_at "sx"
    refine r_ixOwn hT hl ?_
    walk_at "sx"
    refine r_eq (scal_oo _ _) ?_
    walk_at "sx"
    refine r_dec (fun go => ?_) (fun go => ?_)
    · exact he _ T (by rw [eR, if_pos ((oV_int _ _).mp go)])
    rw [if_neg (fun z => go ((oV_int _ _).mpr z))] at eR
    walk_at "sx"
    refine r_owners TX.tb hT ?_
    walk_at "sx"
    refine r_ixOwn hT hl ?_
    walk_at "sx"
    refine ⟨rfl, ?_⟩
    walk_at "sx"
    refine r_dec (fun gn => ?_) (fun gn => ?_)
    · rw [if_pos ((oV_non _).mp gn)] at eR
      walk_at "sx"
      refine r_tmeth hT (by decide +kernel) ?_
      walk_at "sx"
      refine ⟨A, T, a, l, rfl, rfl, rfl, hT, hl, fun H1 hT1 f1 => ?_⟩
      walk_at "sx"
      exact ho _ _ eR H1 hT1 f1
    rw [if_neg (fun z => gn ((oV_non _).mpr z))] at eR
    walk_at "sx"
    refine r_lines TX.tb hT ?_
    walk_at "sx"
    refine r_ixLin hT hl (fun b eb hb => r_tyL hb ?_)
    walk_at "sx"
    refine r_appLine hT (hW.len l) eb (fun H1 hT1 f1 => ?_)
    walk_at "sx"
    refine r_wants TX.tb hT1 ?_
    walk_at "sx"
    refine r_setWan hT1 ha (some l) (fun H2 hT2 f2 => ?_)
    have ha2 : a < ({ (T.line l (T.ln l ++ [a])) with wan := T.wan.set a (some l) } : Tb).n := by show a < (T.wan.set a (some l)).length; rw [List.length_set]; exact ha
    walk_at "sx"
    refine r_rounds TX.tb hT2 ?_
    walk_at "sx"
    refine r_ixRou hT2 ha2 ?_
    walk_at "sx"
    refine r_rounds TX.tb hT2 ?_
    walk_at "sx"
    refine r_setRou hT2 ha2 (T.ro a + 1) (fun H3 hT3 f3 => ?_)
    walk_at "sx"
    exact ho _ _ eR H3 hT3 ((f1.trans f2).trans f3)
theorem sc_t_pass_on : FnScope ["self", "lock", "agent"] ["self", "lock"] (defScope s_t_pass_on) := ⟨rfl, rfl, rfl, by decide +kernel, rfl, by decide +kernel, by decide +kernel⟩
theorem ok_t_pass_on (TX : Txt K mg) : OkF P w K mg base 2 (He.ma K (He.ga K "Table") "pass_on") ["self", "lock"] (sp_t_pass_on K) := by
  obtain ⟨⟨fd_t_take, G_t_take, b_t_take⟩, k_t_take⟩ := (ok_t_take TX : OkF P w K mg base _ _ _ _)
  refine okF TX.f_t_pass_on sc_t_pass_on (fun _ _ _ _ _ _ us hl => match us, hl with | [_, _], _ => rfl) (fun vs H Q E h => ?_) (fun cdv A outer s H vs Q E hr h => ?_)
  · obtain ⟨_, _, rfl, _⟩ := h
    rfl
  · obtain ⟨x, y, rfl, h⟩ := h
    refine ⟨_, (pss_cons (ps_asg pe_non (pg_sub (k_fld (K := K) rfl (pv 0) rfl) (pv 1) set_list)) (pss_cons (ps_if (pt_cmpR (k_eqD (K := K) rfl hr.units) (pe_ix (k_ixl (K := K) rfl) (k_fld (K := K) rfl (pv 0) rfl) (pv 1) (fun _ _ => rfl)) (pe_lst pa_nil) (nomark _)) (pss_one (ps_ret pe_non)) pss_nil) (pss_cons (ps_set (i := 2) sc_t_pass_on.nd rfl (Or.inl rfl) (pe_bm PySem.F.plainAttrs_list PySem.F.slot_list_pop PySem.F.type_list_pop mt_popAt (pe_ix (k_ixl (K := K) rfl) (k_fld (K := K) rfl (pv 0) rfl) (pv 1) (fun _ _ => rfl)) (pa_cons pe_int pa_nil))) (pss_cons (ps_asg pe_non (pg_sub (k_fld (K := K) rfl (pv 0) rfl) (pv 2) set_list)) (pss_cons (ps_expr (pe_meth (pv 0) TX.c_Table TX.m_t_take G_t_take (hr.mono (by decide)) b_t_take .nil pE (pa_cons (pv 2) (pa_cons (pv 1) pa_nil)))) (pss_one (ps_ret (pv 2)))))))), ?_⟩
    refine r_st (σ' := [some x, some y, none]) rfl ?_
    try dsimp only [cxOf]
    obtain ⟨A, T, l, rfl, rfl, hT, hl, hb, h⟩ := h
    walk_at "sx"
    refine r_owners TX.tb hT ?_
    walk_at "sx"
    refine r_setOwn hT hl none (fun H1 hT1 f1 => ?_)
    have hl1 : l < (T.free l).m := by show l < (T.own.set l none).length; rw [List.length_set]; exact hl
    walk_at "sx"
    refine r_lines TX.tb hT1 ?_
    walk_at "sx"
    refine r_ixLin hT1 hl1 (fun b eb hb1 => ?_)
    walk_at "sx"
    refine r_newL (Nat.zero_le _) (fun p H2 hp e f2 => ?_)
    have hT2 := hT1.fr0 f2
    refine r_eqNil (nats_dp (hT2.each _ _ eb)) (nats_cmp _) e ?_
    walk_at "sx"
    refine r_dec (fun g => ?_) (fun g => ?_)
    · have e0 : T.ln l = [] := nats_nil.mp g
      walk_at "sx"
      have e1 : T.pass l = T.free l := by unfold Tb.pass; rw [e0]
      have e2 : T.heir l = none := by unfold Tb.heir; rw [e0]; rfl
      have := h H2 (by rw [e1]; exact hT2) (f1.trans f2.up)
      rw [e2] at this
      exact this
    obtain ⟨x, r, e0⟩ : ∃ x r, T.ln l = x :: r := by
      cases q : T.ln l with
      | nil => exact absurd (nats_nil.mpr (show (T.free l).ln l = [] from q)) g
      | cons x r => exact ⟨x, r, rfl⟩
    have hx : x < T.n := hb x (by rw [e0]; exact List.mem_cons_self)
    walk_at "sx"
    refine r_lines TX.tb hT2 ?_
    walk_at "sx"
    refine r_ixLin hT2 hl1 (fun b' eb' hb2 => r_tyL hb2 ?_)
    walk_at "sx"
    refine r_popLine hT2 eb' e0 (fun H3 hT3 f3 => ?_)
    walk_at "sx"
    refine r_wants TX.tb hT3 ?_
    walk_at "sx"
    refine r_setWan hT3 hx none (fun H4 hT4 f4 => ?_)
    walk_at "sx"
    refine r_tmeth hT4 (by decide +kernel) ?_
    walk_at "sx"
    refine ⟨A, ((T.free l).line l r).stop x, x, l, rfl, rfl, rfl, hT4, hl1, fun H5 hT5 f5 => ?_⟩
    walk_at "sx"
    have e1 : T.pass l = (((T.free l).line l r).stop x).take x l := by unfold Tb.pass; rw [e0]
    have e2 : T.heir l = some x := by unfold Tb.heir; rw [e0]; rfl
    have := h H5 (by rw [e1]; exact hT5) ((((f1.trans f2.up).trans f3).trans f4).trans f5)
    rw [e2] at this
    exact this
theorem sc_t_give : FnScope ["self", "agent", "lock"] ["self", "agent", "lock"] (defScope s_t_give) := ⟨rfl, rfl, rfl, by decide +kernel, rfl, by decide +kernel, by decide +kernel⟩
theorem ok_t_give (TX : Txt K mg) : OkF P w K mg base 3 (He.ma K (He.ga K "Table") "give") ["self", "agent", "lock"] (sp_t_give K) := by
  obtain ⟨⟨fd_t_pass_on, G_t_pass_on, b_t_pass_on⟩, k_t_pass_on⟩ := (ok_t_pass_on TX : OkF P w K mg base _ _ _ _)
  obtain ⟨⟨fd_t_need_free_to, G_t_need_free_to, b_t_need_free_to⟩, k_t_need_free_to⟩ := (ok_t_need_free_to TX : OkF P w K mg base _ _ _ _)
  obtain ⟨⟨fd_t_need_both, G_t_need_both, b_t_need_both⟩, k_t_need_both⟩ := (ok_t_need_both TX : OkF P w K mg base _ _ _ _)
  refine okF TX.f_t_give sc_t_give (fun _ _ _ _ _ _ us hl => match us, hl with | [_, _, _], _ => rfl) (fun vs H Q E h => ?_) (fun cdv A outer s H vs Q E hr h => ?_)
  · obtain ⟨_, _, _, rfl, _⟩ := h
    rfl
  · obtain ⟨x, y, z, rfl, h⟩ := h
    refine ⟨_, (pss_cons (ps_expr (pe_meth (pv 0) TX.c_Table TX.m_t_need_both G_t_need_both (hr.mono (by decide)) b_t_need_both .nil pE (pa_cons (pv 1) (pa_cons (pv 2) pa_nil)))) (pss_cons (ps_expr (pe_meth (pv 0) TX.c_Table TX.m_t_need_free_to G_t_need_free_to (hr.mono (by decide)) b_t_need_free_to .nil pE (pa_cons (pv 1) pa_nil))) (pss_cons (ps_if (pt_cmpR (op_ne) (pe_ix (k_ixl (K := K) rfl) (k_fld (K := K) rfl (pv 0) rfl) (pv 2) (fun _ _ => rfl)) (pv 1) (nomark _)) (pss_one (ps_raise rfl (takes_of rfl rfl rfl rfl) (pmk_own PySem.F.excBase_ValueError TX.e_NotHeld.ex TX.e_NotHeld.g TX.e_NotHeld.k (raises_own TX.e_NotHeld.b TX.e_NotHeld.t) rfl))) pss_nil) (pss_one (ps_ret (pe_meth (pv 0) TX.c_Table TX.m_t_pass_on G_t_pass_on (hr.mono (by decide)) b_t_pass_on .nil pE (pa_cons (pv 2) pa_nil))))))), ?_⟩
    refine r_st (σ' := [some x, some y, some z]) rfl ?_
    try dsimp only [cxOf]
    obtain ⟨A, T, a, l, rfl, rfl, rfl, hT, hW, he, ho⟩ := h
    walk_at "sx"
    refine r_tmeth hT (by decide +kernel) ?_
    walk_at "sx"
    refine ⟨A, T, a, l, rfl, rfl, rfl, hT, fun g => ?_, fun w g => he w T (Tb.giveR_err g)⟩
    obtain ⟨a, l, rfl, rfl, ha, hl⟩ := Tb.fault_none g
    have eR := Tb.giveR_nat ha hl
    walk_at "sx"
    refine r_tmeth hT (by decide +kernel) ?_
    walk_at "sx"
    refine ⟨A, T, a, rfl, rfl, hT, ha, fun gw => ?_, fun gw => he _ T (by rw [eR, if_pos gw])⟩
    rw [if_neg (fun z => z gw)] at eR
    walk_at "sx"
    refine r_owners TX.tb hT ?_
    walk_at "sx"
    refine r_ixOwn hT hl ?_
    walk_at "sx"
    refine r_ne (scal_oo _ _) ?_
    walk_at "sx"
    refine r_decN (fun go => ?_) (fun go => ?_)
    · exact he _ T (by rw [eR, if_pos (fun z => go ((oV_int _ _).mpr z))])
    rw [if_neg (fun z => z ((oV_int _ _).mp go))] at eR
    walk_at "sx"
    refine r_tmeth hT (by decide +kernel) ?_
    walk_at "sx"
    exact ⟨A, T, l, rfl, rfl, hT, hl, fun x hx => (hW.lw l x hx).1, fun H1 hT1 f1 => ho _ _ eR H1 hT1 f1⟩
theorem sc_t_leave : FnScope ["self", "agent", "lock"] ["self", "agent"] (defScope s_t_leave) := ⟨rfl, rfl, rfl, by decide +kernel, rfl, by decide +kernel, by decide +kernel⟩
theorem ok_t_leave (TX : Txt K mg) : OkF P w K mg base 3 (He.ma K (He.ga K "Table") "leave") ["self", "agent"] (sp_t_leave K) := by
  obtain ⟨⟨fd_t_held, G_t_held, b_t_held⟩, k_t_held⟩ := (ok_t_held TX : OkF P w K mg base _ _ _ _)
  obtain ⟨⟨fd_t_pass_on, G_t_pass_on, b_t_pass_on⟩, k_t_pass_on⟩ := (ok_t_pass_on TX : OkF P w K mg base _ _ _ _)
  obtain ⟨⟨fd_t_need_agent, G_t_need_agent, b_t_need_agent⟩, k_t_need_agent⟩ := (ok_t_need_agent TX : OkF P w K mg base _ _ _ _)
  refine okF TX.f_t_leave sc_t_leave (fun _ _ _ _ _ _ us hl => match us, hl with | [_, _], _ => rfl) (fun vs H Q E h => ?_) (fun cdv A outer s H vs Q E hr h => ?_)
  · obtain ⟨_, _, rfl, _⟩ := h
    rfl
  · obtain ⟨x, y, rfl, h⟩ := h
    refine ⟨_, (pss_cons (ps_expr (pe_meth (pv 0) TX.c_Table TX.m_t_need_agent G_t_need_agent (hr.mono (by decide)) b_t_need_agent .nil pE (pa_cons (pv 1) pa_nil))) (pss_cons (ps_if (pt_cmpR (op_notN) (pe_ix (k_ixl (K := K) rfl) (k_fld (K := K) rfl (pv 0) rfl) (pv 1) (fun _ _ => rfl)) pe_non (nomark _)) (pss_cons (ps_expr (pe_bm PySem.F.plainAttrs_list PySem.F.slot_list_remove PySem.F.type_list_remove mt_remove (pe_ix (k_ixl (K := K) rfl) (k_fld (K := K) rfl (pv 0) rfl) (pe_ix (k_ixl (K := K) rfl) (k_fld (K := K) rfl (pv 0) rfl) (pv 1) (fun _ _ => rfl)) (fun _ _ => rfl)) (pa_cons (pv 1) pa_nil))) (pss_one (ps_asg pe_non (pg_sub (k_fld (K := K) rfl (pv 0) rfl) (pv 1) set_list)))) pss_nil) (pss_one (ps_ret (pe_lc (own := [("lock", 2)]) (g := gName 2) rfl sc_t_leave.nd (k_listI (K := K) rfl (pe_meth (pv 0) TX.c_Table TX.m_t_held G_t_held (hr.mono (by decide)) b_t_held .nil pE (pa_cons (pv 1) pa_nil))) (blkOk_by (N := ["self", "agent", "lock"]) (sc := defScope s_t_leave) (by decide +kernel)) (fun _ _ _ _ _ => pg_name (i := 2) sc_t_leave.nd rfl (Or.inl rfl)) (fun _ _ _ _ _ => by exact pts_nil) (fun _ _ _ _ _ => by exact (pe_tup (pa_cons (pv 2) (pa_cons (pe_meth (pv 0) TX.c_Table TX.m_t_pass_on G_t_pass_on (hr.mono (by decide)) b_t_pass_on .nil passL (pa_cons (pv 2) pa_nil)) pa_nil))))))))), ?_⟩
    refine r_st (σ' := [some x, some y, none]) rfl ?_
    try dsimp only [cxOf]
    obtain ⟨A, T, a, rfl, rfl, hT, hW, he, ho⟩ := h
    walk_at "sx"
    refine r_tmeth hT (by decide +kernel) ?_
    walk_at "sx"
    refine ⟨A, T, a, rfl, rfl, hT, fun g => ?_, fun g => he _ T (by unfold Tb.leaveR; rw [if_neg g])⟩
    obtain ⟨a, rfl, ha⟩ := Tb.isA_nat g
    have eR := Tb.leaveR_nat ha
    walk_at "sx"
    refine r_wants TX.tb hT ?_
    walk_at "sx"
    refine r_ixWan hT ha ?_
    walk_at "sx"
    refine ⟨rfl, ?_⟩
    walk_at "sx"
    have rest : ∀ H1, TbK K H1 A (T.unwait a) → Fr A.foot H H1 → tLc (iList K (tMeth (He.ga K "Table") "held" (sp_t_held K) [] E (tVar 0) (tCons (tVar 1) tNil))) (gName 2) tYes (tTup (tCons (tVar 2) (tCons (tMeth (He.ga K "Table") "pass_on" (sp_t_pass_on K) [] E0 (tVar 0) (tCons (tVar 2) tNil)) tNil))) [2] [some (.ref A.p), some (.int (a : Int)), none] H1 Q := by
      intro H1 hT1 f1
      have hW1 := hW.unwait ha
      refine r_lcL0 ?_
      walk_at "sx"
      refine r_tmeth hT1 (by decide +kernel) ?_
      walk_at "sx"
      refine ⟨A, T.unwait a, (a : Int), rfl, rfl, hT1, fun _ h H2 hp e f2 => ?_, fun z => absurd (Tb.isA_of (by rw [Tb.unwait_n]; exact ha)) z⟩
      rw [Int.toNat_natCast] at e
      refine ⟨h, rfl, ⟨_, SqL.of e⟩, fun D hD => ?_⟩
      have hT2 := hT1.fr0 f2
      have nh : ¬ A.foot h := fresh_foot hT1 hp
      refine lc_list (K := K) (a := h) (xs := ((T.unwait a).held a).map nV) (fun i H' => LvW K A (T.unwait a) H2 D (((T.unwait a).held a).take i) H') ⟨hD, (Fr.new hD).up, ⟨[], upd_same, .nil⟩, hT2.fr0 (Fr.new hD)⟩ (fun i H' hi w => SqL.of (w.fr.old _ _ e nh)) (fun i x H' hi w => ?_) (fun H' w => ?_)
      · obtain ⟨l, hl, rfl⟩ : ∃ l, ((T.unwait a).held a)[i]? = some l ∧ x = nV l := by
          rw [List.getElem?_map] at hi
          cases q : ((T.unwait a).held a)[i]? with
          | none => rw [q] at hi; cases hi
          | some l => rw [q] at hi; exact ⟨l, rfl, (Option.some.inj hi).symm⟩
        have hm : l < (T.unwait a).m := Tb.held_lt (List.mem_of_getElem? hl)
        have et : ((T.unwait a).held a).take (i + 1) = ((T.unwait a).held a).take i ++ [l] := by
          rw [List.take_succ, hl]
          rfl
        have hWi := Tb.Wf.passAll (((T.unwait a).held a).take i) hW1 (fun k hk => Tb.held_lt (List.mem_of_mem_take hk))
        obtain ⟨w1, w2, ⟨vs, w3, w3'⟩, w4⟩ := w
        refine ⟨rfl, ?_⟩
        walk_at "sx"
        refine r_tmeth w4 (by decide +kernel) ?_
        walk_at "sx"
        refine ⟨A, _, l, rfl, rfl, w4, by rw [Tb.passAll_m]; exact hm, fun b hb => (hWi.lw l b hb).1, fun H3 hT3 f3 => ?_⟩
        walk_at "sx"
        refine r_newT (by show 2 ≤ 2000; decide) (fun t H4 ht et4 f4 => ?_)
        have nD : ¬ A.foot D := fresh_foot hT2 hD
        have eD : H4 D = some (.lst vs) := f4.lst (f3.old _ _ w3 nD)
        have hlen : vs.length ≤ 12 := by
          have q1 := w3'.len
          have q2 := Tb.passAll_len (((T.unwait a).held a).take i) (T.unwait a)
          have q3 := Tb.held_len (T := T.unwait a) (a := a)
          have q4 := hW1.sz.m12
          rw [show (gone (Tb.passAll (((T.unwait a).held a).take i) (T.unwait a)).1).length = (Tb.passAll (((T.unwait a).held a).take i) (T.unwait a)).1.length from List.length_map _] at q1
          have q5 : (((T.unwait a).held a).take i).length ≤ ((T.unwait a).held a).length := by rw [List.length_take]; exact Nat.min_le_right _ _
          omega
        refine ⟨vs, eD, small2000 (by omega), ?_⟩
        have f5 : Fr (fun b => b = D) H4 (upd H4 D (.lst (vs ++ [.ref t]))) := Fr.put eD (fun xs z => by cases z)
        rw [et]
        refine ⟨w1, ?_, ?_, ?_⟩
        · exact (w2.trans (f3.trans f4.up)).mut_at w1
        · rw [Tb.passAll_snoc, gone_snoc]
          exact ⟨_, upd_same, ((w3'.fr ((f3.trans f4.up))).app (TdAll.one (td_two et4 (.int _) (td_o _ _)))).fr f5⟩
        · rw [Tb.passAll_snoc]
          exact (hT3.fr0 f4).fr f5 (fun b hb z => fresh_has hT2 hD (z ▸ hb))
      · rw [List.length_map, List.take_length] at w
        exact ho _ _ eR D H' w.tb (f1.trans (f2.up.trans w.fr)) (f1.fresh (f2.fresh w.new)) w.at_
    refine r_decN (fun g => ?_) (fun g => ?_)
    · obtain ⟨l, hl⟩ : ∃ l, T.wa a = some l := by
        cases q : T.wa a with
        | none => exact absurd ((oV_non _).mpr q) g
        | some l => exact ⟨l, rfl⟩
      obtain ⟨hlm, hmem⟩ := hW.wl a l hl
      walk_at "sx"
      refine r_lines TX.tb hT ?_
      walk_at "sx"
      refine r_wants TX.tb hT ?_
      walk_at "sx"
      refine r_ixWan hT ha ?_
      rw [hl]
      refine r_ixLin hT hlm (fun b eb hb => r_tyL hb ?_)
      walk_at "sx"
      refine r_remLine hT eb hmem (fun H1 hT1 f1 => ?_)
      walk_at "sx"
      refine r_wants TX.tb hT1 ?_
      walk_at "sx"
      refine r_setWan hT1 ha none (fun H2 hT2 f2 => ?_)
      walk_at "sx"
      exact rest H2 (by rw [Tb.unwait_some hl]; exact hT2) (f1.trans f2)
    · walk_at "sx"
      have g' := (oV_non _).mp g
      exact rest H (by rw [Tb.unwait_none g']; exact hT) Fr.refl
theorem sc_Lworks : FnScope ["_law_table_here", "_law_agent", "_law_lock", "_law_some", "_law_other"] ["_law_table_here", "_law_agent", "_law_lock"] (defScope s_Lworks) := ⟨rfl, rfl, rfl, by decide +kernel, rfl, by decide +kernel, by decide +kernel⟩
theorem ok_Lworks (TX : Txt K mg) (TB : TBs base mg K) : OkF P w K mg base 7 (He.fAd K ("_law_works", none)) [nT, nA, nL] (sp_Lworks (Ts K) (q0W ++ "<lambda>") dsA dsL K) := by
  obtain ⟨fd, F⟩ := TX.f_Lworks
  refine ⟨⟨fd, fn_out (p := ("_law_works", none)) F sc_Lworks (fun n => by rfl) ⟨rfl, rfl, rfl⟩ (fun y hy => by rcases hy with e | e | e <;> subst e <;> rfl) (fun vs H Q E h => ?_) (fun A outer s H vs Q E hr h => ?_), F.bindsN (fun _ _ _ _ _ _ us hl => match us, hl with | [_, _, _], _ => rfl)⟩, F.kp⟩
  · obtain ⟨_, _, _, rfl, _⟩ := h
    rfl
  · obtain ⟨x, y, z, rfl, h⟩ := h
    refine ⟨_, (psg_cons (ps_set (i := 3) sc_Lworks.nd rfl (Or.inl rfl) (pe_lst (pa_cons (pe_mklam (T := Ts K) (TB _ (List.mem_cons_self ..)) rfl (List.mem_map.mpr ⟨_, (List.mem_cons_self ..), rfl⟩) (hu_nodup TX.ts (List.mem_cons_self ..)) (LamX.lamS_by (show LamX.lamSB (defScope s_Lworks) _ = true from by decide +kernel)) rfl) pa_nil))) (psg_cons (ps_expr (pe_bm PySem.F.plainAttrs_list PySem.F.slot_list_append PySem.F.type_list_append mt_append (pv 3) (pa_cons (pe_mklam (T := Ts K) (TB _ (List.mem_cons_self ..)) rfl (List.mem_map.mpr ⟨_, (List.mem_cons_self ..), rfl⟩) (hu_nodup TX.ts (List.mem_cons_self ..)) (LamX.lamS_by (show LamX.lamSB (defScope s_Lworks) _ = true from by decide +kernel)) rfl) pa_nil))) (psg_cons (ps_expr (pe_bm PySem.F.plainAttrs_list PySem.F.slot_list_append PySem.F.type_list_append mt_append (pv 3) (pa_cons (pe_mklam (T := Ts K) (TB _ (List.mem_cons_self ..)) rfl (List.mem_map.mpr ⟨_, (List.mem_cons_self ..), rfl⟩) (hu_nodup TX.ts (List.mem_cons_self ..)) (LamX.lamS_by (show LamX.lamSB (defScope s_Lworks) _ = true from by decide +kernel)) rfl) pa_nil))) (psg_cons (ps_expr (pe_bm PySem.F.plainAttrs_list PySem.F.slot_list_append PySem.F.type_list_append mt_append (pv 3) (pa_cons (pe_mklam (T := Ts K) (TB _ (List.mem_cons_self ..)) rfl (List.mem_map.mpr ⟨_, (List.mem_cons_self ..), rfl⟩) (hu_nodup TX.ts (List.mem_cons_self ..)) (LamX.lamS_by (show LamX.lamSB (defScope s_Lworks) _ = true from by decide +kernel)) rfl) pa_nil))) (psg_cons (ps_expr (pe_bm PySem.F.plainAttrs_list PySem.F.slot_list_append PySem.F.type_list_append mt_append (pv 3) (pa_cons (pe_mklam (T := Ts K) (TB _ (List.mem_cons_self ..)) rfl (List.mem_map.mpr ⟨_, (List.mem_cons_self ..), rfl⟩) (hu_nodup TX.ts (List.mem_cons_self ..)) (LamX.lamS_by (show LamX.lamSB (defScope s_Lworks) _ = true from by decide +kernel)) rfl) pa_nil))) (psg_cons (ps_expr (pe_bm PySem.F.plainAttrs_list PySem.F.slot_list_append PySem.F.type_list_append mt_append (pv 3) (pa_cons (pe_mklam (T := Ts K) (TB _ (List.mem_cons_self ..)) rfl (List.mem_map.mpr ⟨_, (List.mem_cons_self ..), rfl⟩) (hu_nodup TX.ts (List.mem_cons_self ..)) (LamX.lamS_by (show LamX.lamSB (defScope s_Lworks) _ = true from by decide +kernel)) rfl) pa_nil))) (psg_cons (ps_expr (pe_bm PySem.F.plainAttrs_list PySem.F.slot_list_append PySem.F.type_list_append mt_append (pv 3) (pa_cons (pe_mklam (T := Ts K) (TB _ (List.mem_cons_self ..)) rfl (List.mem_map.mpr ⟨_, (List.mem_cons_self ..), rfl⟩) (hu_nodup TX.ts (List.mem_cons_self ..)) (LamX.lamS_by (show LamX.lamSB (defScope s_Lworks) _ = true from by decide +kernel)) rfl) pa_nil))) (psg_cons (ps_set (i := 4) sc_Lworks.nd rfl (Or.inl rfl) (pe_lst (pa_cons (pe_mklam (T := Ts K) (TB _ (List.mem_cons_self ..)) rfl (List.mem_map.mpr ⟨_, (List.mem_cons_self ..), rfl⟩) (hu_nodup TX.ts (List.mem_cons_self ..)) (LamX.lamS_by (show LamX.lamSB (defScope s_Lworks) _ = true from by decide +kernel)) rfl) pa_nil))) (psg_cons (ps_expr (pe_bm PySem.F.plainAttrs_list PySem.F.slot_list_append PySem.F.type_list_append mt_append (pv 4) (pa_cons (pe_mklam (T := Ts K) (TB _ (List.mem_cons_self ..)) rfl (List.mem_map.mpr ⟨_, (List.mem_cons_self ..), rfl⟩) (hu_nodup TX.ts (List.mem_cons_self ..)) (LamX.lamS_by (show LamX.lamSB (defScope s_Lworks) _ = true from by decide +kernel)) rfl) pa_nil))) (psg_cons (ps_expr (pe_bm PySem.F.plainAttrs_list PySem.F.slot_list_append PySem.F.type_list_append mt_append (pv 4) (pa_cons (pe_mklam (T := Ts K) (TB _ (List.mem_cons_self ..)) rfl (List.mem_map.mpr ⟨_, (List.mem_cons_self ..), rfl⟩) (hu_nodup TX.ts (List.mem_cons_self ..)) (LamX.lamS_by (show LamX.lamSB (defScope s_Lworks) _ = true from by decide +kernel)) rfl) pa_nil))) (psg_cons (ps_expr (pe_bm PySem.F.plainAttrs_list PySem.F.slot_list_append PySem.F.type_list_append mt_append (pv 4) (pa_cons (pe_mklam (T := Ts K) (TB _ (List.mem_cons_self ..)) rfl (List.mem_map.mpr ⟨_, (List.mem_cons_self ..), rfl⟩) (hu_nodup TX.ts (List.mem_cons_self ..)) (LamX.lamS_by (show LamX.lamSB (defScope s_Lworks) _ = true from by decide +kernel)) rfl) pa_nil))) (psg_cons (ps_expr (pe_bm PySem.F.plainAttrs_list PySem.F.slot_list_append PySem.F.type_list_append mt_append (pv 4) (pa_cons (pe_mklam (T := Ts K) (TB _ (List.mem_cons_self ..)) rfl (List.mem_map.mpr ⟨_, (List.mem_cons_self ..), rfl⟩) (hu_nodup TX.ts (List.mem_cons_self ..)) (LamX.lamS_by (show LamX.lamSB (defScope s_Lworks) _ = true from by decide +kernel)) rfl) pa_nil))) (psg_ret (pe_tup (pa_cons (pv 3) (pa_cons (pv 4) pa_nil)))))))))))))))), ?_⟩
    obtain ⟨A0, T, a, l, rfl, rfl, rfl, hT, hTs, hq⟩ := h
    show tCat _ _ (Out3 (s.heap.objs.size + 1) Q) [some (.ref (TA.p A0)), some (.int a), some (.int l), none, none] H
    try dsimp only [cxOf]
    walk_at "sx"
    refine r_mklam hTs (fun g0 K0 x0 t0 tb0 l0 => ?_)
    walk_at "sx"
    refine r_newL (by show 1 ≤ 2000; decide) (fun ps J0 hps eps f0 => ?_)
    have V0 := Wst.one (d := dW0) (n := s.heap.objs.size + 1) x0 t0 tb0 l0 hps eps f0
    walk_at "sx"
    walk_at "sx"
    refine r_tyL V0.at_ ?_
    walk_at "sx"
    refine r_mklam V0.tabs (fun g1 K1 x1 t1 tb1 l1 => ?_)
    walk_at "sx"
    refine r_append (lst_ext x1 V0.at_) (by show 1 ≤ 2000; decide) ?_
    have V1 := V0.step (d := dW1) x1 t1 tb1 l1
    generalize upd K1 ps _ = J1 at V1 ⊢
    clear V0 x1 t1 tb1 l1
    walk_at "sx"
    walk_at "sx"
    refine r_tyL V1.at_ ?_
    walk_at "sx"
    refine r_mklam V1.tabs (fun g2 K2 x2 t2 tb2 l2 => ?_)
    walk_at "sx"
    refine r_append (lst_ext x2 V1.at_) (by show 2 ≤ 2000; decide) ?_
    have V2 := V1.step (d := dW2) x2 t2 tb2 l2
    generalize upd K2 ps _ = J2 at V2 ⊢
    clear V1 x2 t2 tb2 l2
    walk_at "sx"
    walk_at "sx"
    refine r_tyL V2.at_ ?_
    walk_at "sx"
    refine r_mklam V2.tabs (fun g3 K3 x3 t3 tb3 l3 => ?_)
    walk_at "sx"
    refine r_append (lst_ext x3 V2.at_) (by show 3 ≤ 2000; decide) ?_
    have V3 := V2.step (d := dW3) x3 t3 tb3 l3
    generalize upd K3 ps _ = J3 at V3 ⊢
    clear V2 x3 t3 tb3 l3
    walk_at "sx"
    walk_at "sx"
    refine r_tyL V3.at_ ?_
    walk_at "sx"
    refine r_mklam V3.tabs (fun g4 K4 x4 t4 tb4 l4 => ?_)
    walk_at "sx"
    refine r_append (lst_ext x4 V3.at_) (by show 4 ≤ 2000; decide) ?_
    have V4 := V3.step (d := dW4) x4 t4 tb4 l4
    generalize upd K4 ps _ = J4 at V4 ⊢
    clear V3 x4 t4 tb4 l4
    walk_at "sx"
    walk_at "sx"
    refine r_tyL V4.at_ ?_
    walk_at "sx"
    refine r_mklam V4.tabs (fun g5 K5 x5 t5 tb5 l5 => ?_)
    walk_at "sx"
    refine r_append (lst_ext x5 V4.at_) (by show 5 ≤ 2000; decide) ?_
    have V5 := V4.step (d := dW5) x5 t5 tb5 l5
    generalize upd K5 ps _ = J5 at V5 ⊢
    clear V4 x5 t5 tb5 l5
    walk_at "sx"
    walk_at "sx"
    refine r_tyL V5.at_ ?_
    walk_at "sx"
    refine r_mklam V5.tabs (fun g6 K6 x6 t6 tb6 l6 => ?_)
    walk_at "sx"
    refine r_append (lst_ext x6 V5.at_) (by show 6 ≤ 2000; decide) ?_
    have V6 := V5.step (d := dW6) x6 t6 tb6 l6
    generalize upd K6 ps _ = J6 at V6 ⊢
    clear V5 x6 t6 tb6 l6
    walk_at "sx"
    walk_at "sx"
    refine r_mklam V6.tabs (fun g7 K7 x7 t7 tb7 l7 => ?_)
    walk_at "sx"
    refine r_newL (by show 1 ≤ 2000; decide) (fun po J7 hpo epo f7 => ?_)
    have V7 := Wst.one (d := dW7) (n := s.heap.objs.size + 1) (V6.ext.trans x7) (fun b z => V6.thr b (t7 b z)) tb7 l7 hpo epo f7
    have ne : ps ≠ po := fun z => by
      have := lst_ext x7 V6.at_
      rw [z, hpo] at this; cases this
    have S7 := f7.lst (lst_ext x7 V6.at_)
    have L7 := (V6.lam.kept (ext_of x7)).kept (ext_frK f7)
    walk_at "sx"
    walk_at "sx"
    refine r_tyL V7.at_ ?_
    walk_at "sx"
    refine r_mklam V7.tabs (fun g8 K8 x8 t8 tb8 l8 => ?_)
    walk_at "sx"
    refine r_append (lst_ext x8 V7.at_) (by show 1 ≤ 2000; decide) ?_
    have V8 := V7.step (d := dW8) x8 t8 tb8 l8
    obtain ⟨S8, L8⟩ := Wst.side S7 L7 x8 (lst_ext x8 V7.at_) ne (zs := List.map V.ref ([g7]) ++ [.ref g8])
    generalize upd K8 po (.lst (List.map V.ref ([g7]) ++ [.ref g8])) = J8 at V8 S8 L8 ⊢
    clear V7 S7 L7 x8 t8 tb8 l8
    walk_at "sx"
    walk_at "sx"
    refine r_tyL V8.at_ ?_
    walk_at "sx"
    refine r_mklam V8.tabs (fun g9 K9 x9 t9 tb9 l9 => ?_)
    walk_at "sx"
    refine r_append (lst_ext x9 V8.at_) (by show 2 ≤ 2000; decide) ?_
    have V9 := V8.step (d := dW9) x9 t9 tb9 l9
    obtain ⟨S9, L9⟩ := Wst.side S8 L8 x9 (lst_ext x9 V8.at_) ne (zs := List.map V.ref ([g7] ++ [g8]) ++ [.ref g9])
    generalize upd K9 po (.lst (List.map V.ref ([g7] ++ [g8]) ++ [.ref g9])) = J9 at V9 S9 L9 ⊢
    clear V8 S8 L8 x9 t9 tb9 l9
    walk_at "sx"
    walk_at "sx"
    refine r_tyL V9.at_ ?_
    walk_at "sx"
    refine r_mklam V9.tabs (fun g10 K10 x10 t10 tb10 l10 => ?_)
    walk_at "sx"
    refine r_append (lst_ext x10 V9.at_) (by show 3 ≤ 2000; decide) ?_
    have V10 := V9.step (d := dW10) x10 t10 tb10 l10
    obtain ⟨S10, L10⟩ := Wst.side S9 L9 x10 (lst_ext x10 V9.at_) ne (zs := List.map V.ref ([g7] ++ [g8] ++ [g9]) ++ [.ref g10])
    generalize upd K10 po (.lst (List.map V.ref ([g7] ++ [g8] ++ [g9]) ++ [.ref g10])) = J10 at V10 S10 L10 ⊢
    clear V9 S9 L9 x10 t10 tb10 l10
    walk_at "sx"
    walk_at "sx"
    refine r_tyL V10.at_ ?_
    walk_at "sx"
    refine r_mklam V10.tabs (fun g11 K11 x11 t11 tb11 l11 => ?_)
    walk_at "sx"
    refine r_append (lst_ext x11 V10.at_) (by show 4 ≤ 2000; decide) ?_
    have V11 := V10.step (d := dW11) x11 t11 tb11 l11
    obtain ⟨S11, L11⟩ := Wst.side S10 L10 x11 (lst_ext x11 V10.at_) ne (zs := List.map V.ref ([g7] ++ [g8] ++ [g9] ++ [g10]) ++ [.ref g11])
    generalize upd K11 po (.lst (List.map V.ref ([g7] ++ [g8] ++ [g9] ++ [g10]) ++ [.ref g11])) = J11 at V11 S11 L11 ⊢
    clear V10 S10 L10 x11 t11 tb11 l11
    walk_at "sx"
    refine r_newT (by show 2 ≤ 2000; decide) (fun p J12 hp ep f12 => ?_)
    refine ⟨_, _, _, rfl, rfl, rfl, fun a' b' c' ra rb rc h0 h1 h2 => ?_⟩
    have up := up3_old (a := a') (b := b') (c := c') h0 h1 h2
    refine hq p ps po [g0, g1, g2, g3, g4, g5, g6] [g7, g8, g9, g10, g11] (s.heap.objs.size + 1) _ (up _ _ ep) (up _ _ (f12.lst S11)) (up _ _ (f12.lst V11.at_)) ?_ ?_ (up3_cells ra rb rc) ((tabs_fr V11.tabs f12 old_no).ext up) ((V11.ext.trans (extN_frN f12)).trans (fun b o e _ => up b o e)) (fun b z => V11.thr b (f12.thr b (up3_thr b z)))
    · exact (L11.kept (ext_frK f12)).kept (fun b φ e => up b _ e)
    · exact (V11.lam.kept (ext_frK f12)).kept (fun b φ e => up b _ e)
theorem gl_0 {Y : Cx} (TX : Txt Y.K Y.mg) {A : Around} {outer : List Env} {s : Shared} {H : Hp} {E : XK} {f c' : Addr} {k : Nat} {fd : FuncData} {ps : List Str} {sp : Sp} (hN : Y.N = [nT, nA, nL]) (F : FnOk Y.prog Y.w Y.K Y.mg Y.base (L2.CX Y.prog Y.w) k (He.ma Y.K (He.ga Y.K "Table") "ask") fd ps sp) (hr : Room k (A.deeper (LamX.lamEnv Y dW0.scope s.heap.objs.size f c'))) (hb : L2.Binds Y.K fd ps []) :
    PE (LamX.lamCx Y A outer s H E dW0.scope f c') dW0.body (tMeth (He.ga Y.K "Table") "ask" sp [] E (tVar 0) (tCons (tVar 1) (tCons (tC (.int 0)) tNil))) := by
  dsimp only at hr ⊢
  exact (pe_meth (pe_var (i := 0) (by show Y.N[0]? = _; rw [hN]; rfl) (Or.inr (Or.inr rfl))) TX.c_Table TX.m_t_ask F hr hb .nil pLam (pa_cons (pe_var (i := 1) (by show Y.N[1]? = _; rw [hN]; rfl) (Or.inr (Or.inr rfl))) (pa_cons pe_int pa_nil)))
theorem gl_1 {Y : Cx} (TX : Txt Y.K Y.mg) {A : Around} {outer : List Env} {s : Shared} {H : Hp} {E : XK} {f c' : Addr} {k : Nat} {fd : FuncData} {ps : List Str} {sp : Sp} (hN : Y.N = [nT, nA, nL]) (F : FnOk Y.prog Y.w Y.K Y.mg Y.base (L2.CX Y.prog Y.w) k (He.ma Y.K (He.ga Y.K "Table") "give") fd ps sp) (hr : Room k (A.deeper (LamX.lamEnv Y dW1.scope s.heap.objs.size f c'))) (hb : L2.Binds Y.K fd ps []) :
    PE (LamX.lamCx Y A outer s H E dW1.scope f c') dW1.body (tMeth (He.ga Y.K "Table") "give" sp [] E (tVar 0) (tCons (tVar 1) (tCons (tC (.int 0)) tNil))) := by
  dsimp only at hr ⊢
  exact (pe_meth (pe_var (i := 0) (by show Y.N[0]? = _; rw [hN]; rfl) (Or.inr (Or.inr rfl))) TX.c_Table TX.m_t_give F hr hb .nil pLam (pa_cons (pe_var (i := 1) (by show Y.N[1]? = _; rw [hN]; rfl) (Or.inr (Or.inr rfl))) (pa_cons pe_int pa_nil)))
theorem gl_2 {Y : Cx} (TX : Txt Y.K Y.mg) {A : Around} {outer : List Env} {s : Shared} {H : Hp} {E : XK} {f c' : Addr} {k : Nat} {fd : FuncData} {ps : List Str} {sp : Sp} (hN : Y.N = [nT, nA, nL]) (F : FnOk Y.prog Y.w Y.K Y.mg Y.base (L2.CX Y.prog Y.w) k (He.ma Y.K (He.ga Y.K "Table") "leave") fd ps sp) (hr : Room k (A.deeper (LamX.lamEnv Y dW2.scope s.heap.objs.size f c'))) (hb : L2.Binds Y.K fd ps []) :
    PE (LamX.lamCx Y A outer s H E dW2.scope f c') dW2.body (tMeth (He.ga Y.K "Table") "leave" sp [] E (tVar 0) (tCons (tVar 1) tNil)) := by
  dsimp only at hr ⊢
  exact (pe_meth (pe_var (i := 0) (by show Y.N[0]? = _; rw [hN]; rfl) (Or.inr (Or.inr rfl))) TX.c_Table TX.m_t_leave F hr hb .nil pLam (pa_cons (pe_var (i := 1) (by show Y.N[1]? = _; rw [hN]; rfl) (Or.inr (Or.inr rfl))) pa_nil))
theorem gl_3 {Y : Cx} (TX : Txt Y.K Y.mg) {A : Around} {outer : List Env} {s : Shared} {H : Hp} {E : XK} {f c' : Addr} {k : Nat} {fd : FuncData} {ps : List Str} {sp : Sp} (hN : Y.N = [nT, nA, nL]) (F : FnOk Y.prog Y.w Y.K Y.mg Y.base (L2.CX Y.prog Y.w) k (He.ma Y.K (He.ga Y.K "Table") "waits") fd ps sp) (hr : Room k (A.deeper (LamX.lamEnv Y dW3.scope s.heap.objs.size f c'))) (hb : L2.Binds Y.K fd ps []) :
    PE (LamX.lamCx Y A outer s H E dW3.scope f c') dW3.body (tMeth (He.ga Y.K "Table") "waits" sp [] E (tVar 0) (tCons (tVar 1) tNil)) := by
  dsimp only at hr ⊢
  exact (pe_meth (pe_var (i := 0) (by show Y.N[0]? = _; rw [hN]; rfl) (Or.inr (Or.inr rfl))) TX.c_Table TX.m_t_waits F hr hb .nil pLam (pa_cons (pe_var (i := 1) (by show Y.N[1]? = _; rw [hN]; rfl) (Or.inr (Or.inr rfl))) pa_nil))
theorem gl_4 {Y : Cx} (TX : Txt Y.K Y.mg) {A : Around} {outer : List Env} {s : Shared} {H : Hp} {E : XK} {f c' : Addr} {k : Nat} {fd : FuncData} {ps : List Str} {sp : Sp} (hN : Y.N = [nT, nA, nL]) (F : FnOk Y.prog Y.w Y.K Y.mg Y.base (L2.CX Y.prog Y.w) k (He.ma Y.K (He.ga Y.K "Table") "held") fd ps sp) (hr : Room k (A.deeper (LamX.lamEnv Y dW4.scope s.heap.objs.size f c'))) (hb : L2.Binds Y.K fd ps []) :
    PE (LamX.lamCx Y A outer s H E dW4.scope f c') dW4.body (tMeth (He.ga Y.K "Table") "held" sp [] E (tVar 0) (tCons (tVar 1) tNil)) := by
  dsimp only at hr ⊢
  exact (pe_meth (pe_var (i := 0) (by show Y.N[0]? = _; rw [hN]; rfl) (Or.inr (Or.inr rfl))) TX.c_Table TX.m_t_held F hr hb .nil pLam (pa_cons (pe_var (i := 1) (by show Y.N[1]? = _; rw [hN]; rfl) (Or.inr (Or.inr rfl))) pa_nil))
theorem gl_5 {Y : Cx} (TX : Txt Y.K Y.mg) {A : Around} {outer : List Env} {s : Shared} {H : Hp} {E : XK} {f c' : Addr} {k : Nat} {fd : FuncData} {ps : List Str} {sp : Sp} (hN : Y.N = [nT, nA, nL]) (F : FnOk Y.prog Y.w Y.K Y.mg Y.base (L2.CX Y.prog Y.w) k (He.ma Y.K (He.ga Y.K "Table") "wait_number") fd ps sp) (hr : Room k (A.deeper (LamX.lamEnv Y dW5.scope s.heap.objs.size f c'))) (hb : L2.Binds Y.K fd ps []) :
    PE (LamX.lamCx Y A outer s H E dW5.scope f c') dW5.body (tMeth (He.ga Y.K "Table") "wait_number" sp [] E (tVar 0) (tCons (tVar 1) tNil)) := by
  dsimp only at hr ⊢
  exact (pe_meth (pe_var (i := 0) (by show Y.N[0]? = _; rw [hN]; rfl) (Or.inr (Or.inr rfl))) TX.c_Table TX.m_t_wait_number F hr hb .nil pLam (pa_cons (pe_var (i := 1) (by show Y.N[1]? = _; rw [hN]; rfl) (Or.inr (Or.inr rfl))) pa_nil))
theorem gl_6 {Y : Cx} (TX : Txt Y.K Y.mg) {A : Around} {outer : List Env} {s : Shared} {H : Hp} {E : XK} {f c' : Addr} {k : Nat} {fd : FuncData} {ps : List Str} {sp : Sp} (hN : Y.N = [nT, nA, nL]) (F : FnOk Y.prog Y.w Y.K Y.mg Y.base (L2.CX Y.prog Y.w) k (He.ga Y.K "chain") fd ps sp) (hr : Room k (A.deeper (LamX.lamEnv Y dW6.scope s.heap.objs.size f c'))) (hb : L2.Binds Y.K fd ps []) (hk : PySem.W.keepIn Y.K (.ref (He.ga Y.K "chain")) = true) :
    PE (LamX.lamCx Y A outer s H E dW6.scope f c') dW6.body (tCall sp [] E (tCons (tVar 0) (tCons (tVar 1) tNil))) := by
  dsimp only at hr ⊢
  exact (pe_call F hr (by rfl) TX.g_chain hk hb .nil pLam (pa_cons (pe_var (i := 0) (by show Y.N[0]? = _; rw [hN]; rfl) (Or.inr (Or.inr rfl))) (pa_cons (pe_var (i := 1) (by show Y.N[1]? = _; rw [hN]; rfl) (Or.inr (Or.inr rfl))) pa_nil)))
theorem goodA (TX : Txt K mg) {X : Cx} (e1 : X.prog = P) (e2 : X.w = w) (e3 : X.K = K) (e4 : X.mg = mg) (e5 : X.base = base) : ∀ d ∈ dsA, GoodL X 5 q0W (defScope s_Lworks) d (tBad K .noAgent badA) := by
  subst e1 e2 e3 e4 e5
  obtain ⟨⟨fd_t_ask, G_t_ask, b_t_ask⟩, k_t_ask⟩ := (ok_t_ask TX : OkF X.prog X.w X.K X.mg X.base _ _ _ _)
  obtain ⟨⟨fd_t_give, G_t_give, b_t_give⟩, k_t_give⟩ := (ok_t_give TX : OkF X.prog X.w X.K X.mg X.base _ _ _ _)
  obtain ⟨⟨fd_t_leave, G_t_leave, b_t_leave⟩, k_t_leave⟩ := (ok_t_leave TX : OkF X.prog X.w X.K X.mg X.base _ _ _ _)
  obtain ⟨⟨fd_t_waits, G_t_waits, b_t_waits⟩, k_t_waits⟩ := (ok_t_waits TX : OkF X.prog X.w X.K X.mg X.base _ _ _ _)
  obtain ⟨⟨fd_t_held, G_t_held, b_t_held⟩, k_t_held⟩ := (ok_t_held TX : OkF X.prog X.w X.K X.mg X.base _ _ _ _)
  obtain ⟨⟨fd_t_wait_number, G_t_wait_number, b_t_wait_number⟩, k_t_wait_number⟩ := (ok_t_wait_number TX : OkF X.prog X.w X.K X.mg X.base _ _ _ _)
  obtain ⟨⟨fd_chain, G_chain, b_chain⟩, k_chain⟩ := (ok_chain TX : OkF X.prog X.w X.K X.mg X.base _ _ _ _)
  intro d hd
  unfold dsA at hd
  simp only [List.mem_cons, List.not_mem_nil, or_false] at hd
  rcases hd with hd | hd | hd | hd | hd | hd | hd
  · rw [hd]
    refine ⟨LamX.lamS_by (by decide +kernel), (by decide +kernel), fun _ _ _ _ _ => rfl, fun n A outer s H E f c' hr => pe_weak (gl_0 (Y := mk3 X q0W (defScope s_Lworks) n) TX rfl G_t_ask (hr.mono (by decide)) b_t_ask) (fun σ H Q h => ?_)⟩
    obtain ⟨A, T, a, l, rfl, hT, hW, hb, hq⟩ := h
    walk_at "sx"
    refine r_tmeth hT (by decide +kernel) ?_
    walk_at "sx"
    have ef : T.askR a 0 = (.error .noAgent, T) := by
      unfold Tb.askR Tb.fault
      rw [if_neg hb]
    refine ⟨A, T, a, 0, rfl, rfl, rfl, hT, hW, fun w' T' e => ?_, fun b T' e => by rw [ef] at e; cases e⟩
    rw [ef] at e
    cases e
    exact hq H Fr.refl
  · rw [hd]
    refine ⟨LamX.lamS_by (by decide +kernel), (by decide +kernel), fun _ _ _ _ _ => rfl, fun n A outer s H E f c' hr => pe_weak (gl_1 (Y := mk3 X q0W (defScope s_Lworks) n) TX rfl G_t_give (hr.mono (by decide)) b_t_give) (fun σ H Q h => ?_)⟩
    obtain ⟨A, T, a, l, rfl, hT, hW, hb, hq⟩ := h
    walk_at "sx"
    refine r_tmeth hT (by decide +kernel) ?_
    walk_at "sx"
    have ef : T.giveR a 0 = (.error .noAgent, T) := by
      unfold Tb.giveR Tb.fault
      rw [if_neg hb]
    refine ⟨A, T, a, 0, rfl, rfl, rfl, hT, hW, fun w' T' e => ?_, fun b T' e => by rw [ef] at e; cases e⟩
    rw [ef] at e
    cases e
    exact hq H Fr.refl
  · rw [hd]
    refine ⟨LamX.lamS_by (by decide +kernel), (by decide +kernel), fun _ _ _ _ _ => rfl, fun n A outer s H E f c' hr => pe_weak (gl_2 (Y := mk3 X q0W (defScope s_Lworks) n) TX rfl G_t_leave (hr.mono (by decide)) b_t_leave) (fun σ H Q h => ?_)⟩
    obtain ⟨A, T, a, l, rfl, hT, hW, hb, hq⟩ := h
    walk_at "sx"
    refine r_tmeth hT (by decide +kernel) ?_
    walk_at "sx"
    have ef : T.leaveR a = (.error .noAgent, T) := by
      unfold Tb.leaveR
      rw [if_neg hb]
    refine ⟨A, T, a, rfl, rfl, hT, hW, fun w' T' e => ?_, fun b T' e => by rw [ef] at e; cases e⟩
    rw [ef] at e
    cases e
    exact hq H Fr.refl
  · rw [hd]
    refine ⟨LamX.lamS_by (by decide +kernel), (by decide +kernel), fun _ _ _ _ _ => rfl, fun n A outer s H E f c' hr => pe_weak (gl_3 (Y := mk3 X q0W (defScope s_Lworks) n) TX rfl G_t_waits (hr.mono (by decide)) b_t_waits) (fun σ H Q h => ?_)⟩
    obtain ⟨A, T, a, l, rfl, hT, hW, hb, hq⟩ := h
    walk_at "sx"
    refine r_tmeth hT (by decide +kernel) ?_
    walk_at "sx"
    exact ⟨A, T, a, rfl, rfl, hT, fun z => absurd z hb, fun _ => hq H Fr.refl⟩
  · rw [hd]
    refine ⟨LamX.lamS_by (by decide +kernel), (by decide +kernel), fun _ _ _ _ _ => rfl, fun n A outer s H E f c' hr => pe_weak (gl_4 (Y := mk3 X q0W (defScope s_Lworks) n) TX rfl G_t_held (hr.mono (by decide)) b_t_held) (fun σ H Q h => ?_)⟩
    obtain ⟨A, T, a, l, rfl, hT, hW, hb, hq⟩ := h
    walk_at "sx"
    refine r_tmeth hT (by decide +kernel) ?_
    walk_at "sx"
    exact ⟨A, T, a, rfl, rfl, hT, fun z => absurd z hb, fun _ => hq H Fr.refl⟩
  · rw [hd]
    refine ⟨LamX.lamS_by (by decide +kernel), (by decide +kernel), fun _ _ _ _ _ => rfl, fun n A outer s H E f c' hr => pe_weak (gl_5 (Y := mk3 X q0W (defScope s_Lworks) n) TX rfl G_t_wait_number (hr.mono (by decide)) b_t_wait_number) (fun σ H Q h => ?_)⟩
    obtain ⟨A, T, a, l, rfl, hT, hW, hb, hq⟩ := h
    walk_at "sx"
    refine r_tmeth hT (by decide +kernel) ?_
    walk_at "sx"
    exact ⟨A, T, a, rfl, rfl, hT, fun z => absurd z hb, fun _ => hq H Fr.refl⟩
  · rw [hd]
    refine ⟨LamX.lamS_by (by decide +kernel), (by decide +kernel), fun _ _ _ _ _ => rfl, fun n A outer s H E f c' hr => pe_weak (gl_6 (Y := mk3 X q0W (defScope s_Lworks) n) TX rfl G_chain (hr.mono (by decide)) b_chain k_chain) (fun σ H Q h => ?_)⟩
    obtain ⟨A, T, a, l, rfl, hT, hW, hb, hq⟩ := h
    walk_at "sx"
    exact ⟨A, T, a, rfl, rfl, hT, hW, fun z => absurd z hb, fun _ H' f => hq H' f⟩
theorem gl_7 {Y : Cx} (TX : Txt Y.K Y.mg) {A : Around} {outer : List Env} {s : Shared} {H : Hp} {E : XK} {f c' : Addr} {k : Nat} {fd : FuncData} {ps : List Str} {sp : Sp} (hN : Y.N = [nT, nA, nL]) (F : FnOk Y.prog Y.w Y.K Y.mg Y.base (L2.CX Y.prog Y.w) k (He.ma Y.K (He.ga Y.K "Table") "ask") fd ps sp) (hr : Room k (A.deeper (LamX.lamEnv Y dW7.scope s.heap.objs.size f c'))) (hb : L2.Binds Y.K fd ps []) :
    PE (LamX.lamCx Y A outer s H E dW7.scope f c') dW7.body (tMeth (He.ga Y.K "Table") "ask" sp [] E (tVar 0) (tCons (tC (.int 0)) (tCons (tVar 2) tNil))) := by
  dsimp only at hr ⊢
  exact (pe_meth (pe_var (i := 0) (by show Y.N[0]? = _; rw [hN]; rfl) (Or.inr (Or.inr rfl))) TX.c_Table TX.m_t_ask F hr hb .nil pLam (pa_cons pe_int (pa_cons (pe_var (i := 2) (by show Y.N[2]? = _; rw [hN]; rfl) (Or.inr (Or.inr rfl))) pa_nil)))
theorem gl_8 {Y : Cx} (TX : Txt Y.K Y.mg) {A : Around} {outer : List Env} {s : Shared} {H : Hp} {E : XK} {f c' : Addr} {k : Nat} {fd : FuncData} {ps : List Str} {sp : Sp} (hN : Y.N = [nT, nA, nL]) (F : FnOk Y.prog Y.w Y.K Y.mg Y.base (L2.CX Y.prog Y.w) k (He.ma Y.K (He.ga Y.K "Table") "give") fd ps sp) (hr : Room k (A.deeper (LamX.lamEnv Y dW8.scope s.heap.objs.size f c'))) (hb : L2.Binds Y.K fd ps []) :
    PE (LamX.lamCx Y A outer s H E dW8.scope f c') dW8.body (tMeth (He.ga Y.K "Table") "give" sp [] E (tVar 0) (tCons (tC (.int 0)) (tCons (tVar 2) tNil))) := by
  dsimp only at hr ⊢
  exact (pe_meth (pe_var (i := 0) (by show Y.N[0]? = _; rw [hN]; rfl) (Or.inr (Or.inr rfl))) TX.c_Table TX.m_t_give F hr hb .nil pLam (pa_cons pe_int (pa_cons (pe_var (i := 2) (by show Y.N[2]? = _; rw [hN]; rfl) (Or.inr (Or.inr rfl))) pa_nil)))
theorem gl_9 {Y : Cx} (TX : Txt Y.K Y.mg) {A : Around} {outer : List Env} {s : Shared} {H : Hp} {E : XK} {f c' : Addr} {k : Nat} {fd : FuncData} {ps : List Str} {sp : Sp} (hN : Y.N = [nT, nA, nL]) (F : FnOk Y.prog Y.w Y.K Y.mg Y.base (L2.CX Y.prog Y.w) k (He.ma Y.K (He.ga Y.K "Table") "holder") fd ps sp) (hr : Room k (A.deeper (LamX.lamEnv Y dW9.scope s.heap.objs.size f c'))) (hb : L2.Binds Y.K fd ps []) :
    PE (LamX.lamCx Y A outer s H E dW9.scope f c') dW9.body (tMeth (He.ga Y.K "Table") "holder" sp [] E (tVar 0) (tCons (tVar 2) tNil)) := by
  dsimp only at hr ⊢
  exact (pe_meth (pe_var (i := 0) (by show Y.N[0]? = _; rw [hN]; rfl) (Or.inr (Or.inr rfl))) TX.c_Table TX.m_t_holder F hr hb .nil pLam (pa_cons (pe_var (i := 2) (by show Y.N[2]? = _; rw [hN]; rfl) (Or.inr (Or.inr rfl))) pa_nil))
theorem gl_10 {Y : Cx} (TX : Txt Y.K Y.mg) {A : Around} {outer : List Env} {s : Shared} {H : Hp} {E : XK} {f c' : Addr} {k : Nat} {fd : FuncData} {ps : List Str} {sp : Sp} (hN : Y.N = [nT, nA, nL]) (F : FnOk Y.prog Y.w Y.K Y.mg Y.base (L2.CX Y.prog Y.w) k (He.ma Y.K (He.ga Y.K "Table") "queue") fd ps sp) (hr : Room k (A.deeper (LamX.lamEnv Y dW10.scope s.heap.objs.size f c'))) (hb : L2.Binds Y.K fd ps []) :
    PE (LamX.lamCx Y A outer s H E dW10.scope f c') dW10.body (tMeth (He.ga Y.K "Table") "queue" sp [] E (tVar 0) (tCons (tVar 2) tNil)) := by
  dsimp only at hr ⊢
  exact (pe_meth (pe_var (i := 0) (by show Y.N[0]? = _; rw [hN]; rfl) (Or.inr (Or.inr rfl))) TX.c_Table TX.m_t_queue F hr hb .nil pLam (pa_cons (pe_var (i := 2) (by show Y.N[2]? = _; rw [hN]; rfl) (Or.inr (Or.inr rfl))) pa_nil))
theorem gl_11 {Y : Cx} (TX : Txt Y.K Y.mg) {A : Around} {outer : List Env} {s : Shared} {H : Hp} {E : XK} {f c' : Addr} {k : Nat} {fd : FuncData} {ps : List Str} {sp : Sp} (hN : Y.N = [nT, nA, nL]) (F : FnOk Y.prog Y.w Y.K Y.mg Y.base (L2.CX Y.prog Y.w) k (He.ma Y.K (He.ga Y.K "Table") "hold_number") fd ps sp) (hr : Room k (A.deeper (LamX.lamEnv Y dW11.scope s.heap.objs.size f c'))) (hb : L2.Binds Y.K fd ps []) :
    PE (LamX.lamCx Y A outer s H E dW11.scope f c') dW11.body (tMeth (He.ga Y.K "Table") "hold_number" sp [] E (tVar 0) (tCons (tVar 2) tNil)) := by
  dsimp only at hr ⊢
  exact (pe_meth (pe_var (i := 0) (by show Y.N[0]? = _; rw [hN]; rfl) (Or.inr (Or.inr rfl))) TX.c_Table TX.m_t_hold_number F hr hb .nil pLam (pa_cons (pe_var (i := 2) (by show Y.N[2]? = _; rw [hN]; rfl) (Or.inr (Or.inr rfl))) pa_nil))
theorem goodL (TX : Txt K mg) {X : Cx} (e1 : X.prog = P) (e2 : X.w = w) (e3 : X.K = K) (e4 : X.mg = mg) (e5 : X.base = base) : ∀ d ∈ dsL, GoodL X 5 q0W (defScope s_Lworks) d (tBad K .noLock badL) := by
  subst e1 e2 e3 e4 e5
  obtain ⟨⟨fd_t_ask, G_t_ask, b_t_ask⟩, k_t_ask⟩ := (ok_t_ask TX : OkF X.prog X.w X.K X.mg X.base _ _ _ _)
  obtain ⟨⟨fd_t_give, G_t_give, b_t_give⟩, k_t_give⟩ := (ok_t_give TX : OkF X.prog X.w X.K X.mg X.base _ _ _ _)
  obtain ⟨⟨fd_t_holder, G_t_holder, b_t_holder⟩, k_t_holder⟩ := (ok_t_holder TX : OkF X.prog X.w X.K X.mg X.base _ _ _ _)
  obtain ⟨⟨fd_t_queue, G_t_queue, b_t_queue⟩, k_t_queue⟩ := (ok_t_queue TX : OkF X.prog X.w X.K X.mg X.base _ _ _ _)
  obtain ⟨⟨fd_t_hold_number, G_t_hold_number, b_t_hold_number⟩, k_t_hold_number⟩ := (ok_t_hold_number TX : OkF X.prog X.w X.K X.mg X.base _ _ _ _)
  intro d hd
  unfold dsL at hd
  simp only [List.mem_cons, List.not_mem_nil, or_false] at hd
  rcases hd with hd | hd | hd | hd | hd
  · rw [hd]
    refine ⟨LamX.lamS_by (by decide +kernel), (by decide +kernel), fun _ _ _ _ _ => rfl, fun n A outer s H E f c' hr => pe_weak (gl_7 (Y := mk3 X q0W (defScope s_Lworks) n) TX rfl G_t_ask (hr.mono (by decide)) b_t_ask) (fun σ H Q h => ?_)⟩
    obtain ⟨A, T, a, l, rfl, hT, hW, hb, hq⟩ := h
    walk_at "sx"
    refine r_tmeth hT (by decide +kernel) ?_
    walk_at "sx"
    have ef : T.askR 0 l = (.error .noLock, T) := by
      unfold Tb.askR Tb.fault
      rw [if_pos hb.1, if_neg hb.2.2]
    refine ⟨A, T, 0, l, rfl, rfl, rfl, hT, hW, fun w' T' e => ?_, fun b T' e => by rw [ef] at e; cases e⟩
    rw [ef] at e
    cases e
    exact hq H Fr.refl
  · rw [hd]
    refine ⟨LamX.lamS_by (by decide +kernel), (by decide +kernel), fun _ _ _ _ _ => rfl, fun n A outer s H E f c' hr => pe_weak (gl_8 (Y := mk3 X q0W (defScope s_Lworks) n) TX rfl G_t_give (hr.mono (by decide)) b_t_give) (fun σ H Q h => ?_)⟩
    obtain ⟨A, T, a, l, rfl, hT, hW, hb, hq⟩ := h
    walk_at "sx"
    refine r_tmeth hT (by decide +kernel) ?_
    walk_at "sx"
    have ef : T.giveR 0 l = (.error .noLock, T) := by
      unfold Tb.giveR Tb.fault
      rw [if_pos hb.1, if_neg hb.2.2]
    refine ⟨A, T, 0, l, rfl, rfl, rfl, hT, hW, fun w' T' e => ?_, fun b T' e => by rw [ef] at e; cases e⟩
    rw [ef] at e
    cases e
    exact hq H Fr.refl
  · rw [hd]
    refine ⟨LamX.lamS_by (by decide +kernel), (by decide +kernel), fun _ _ _ _ _ => rfl, fun n A outer s H E f c' hr => pe_weak (gl_9 (Y := mk3 X q0W (defScope s_Lworks) n) TX rfl G_t_holder (hr.mono (by decide)) b_t_holder) (fun σ H Q h => ?_)⟩
    obtain ⟨A, T, a, l, rfl, hT, hW, hb, hq⟩ := h
    walk_at "sx"
    refine r_tmeth hT (by decide +kernel) ?_
    walk_at "sx"
    exact ⟨A, T, l, rfl, rfl, hT, fun z => absurd z hb.2.2, fun _ => hq H Fr.refl⟩
  · rw [hd]
    refine ⟨LamX.lamS_by (by decide +kernel), (by decide +kernel), fun _ _ _ _ _ => rfl, fun n A outer s H E f c' hr => pe_weak (gl_10 (Y := mk3 X q0W (defScope s_Lworks) n) TX rfl G_t_queue (hr.mono (by decide)) b_t_queue) (fun σ H Q h => ?_)⟩
    obtain ⟨A, T, a, l, rfl, hT, hW, hb, hq⟩ := h
    walk_at "sx"
    refine r_tmeth hT (by decide +kernel) ?_
    walk_at "sx"
    exact ⟨A, T, l, rfl, rfl, hT, fun z => absurd z hb.2.2, fun _ => hq H Fr.refl⟩
  · rw [hd]
    refine ⟨LamX.lamS_by (by decide +kernel), (by decide +kernel), fun _ _ _ _ _ => rfl, fun n A outer s H E f c' hr => pe_weak (gl_11 (Y := mk3 X q0W (defScope s_Lworks) n) TX rfl G_t_hold_number (hr.mono (by decide)) b_t_hold_number) (fun σ H Q h => ?_)⟩
    obtain ⟨A, T, a, l, rfl, hT, hW, hb, hq⟩ := h
    walk_at "sx"
    refine r_tmeth hT (by decide +kernel) ?_
    walk_at "sx"
    exact ⟨A, T, l, rfl, rfl, hT, fun z => absurd z hb.2.2, fun _ => hq H Fr.refl⟩
theorem sc_Ldrawn : FnScope ["_law_state", "_law_many", "_law_found", "_law_cell"] ["_law_state", "_law_many"] (defScope s_Ldrawn) := ⟨rfl, rfl, rfl, by decide +kernel, rfl, by decide +kernel, by decide +kernel⟩
theorem ok_Ldrawn (TX : Txt K mg) : OkF P w K mg base 1 (He.ga K "_law_drawn") ["_law_state", "_law_many"] (sp_Ldrawn K) := by
  refine okF TX.f_Ldrawn sc_Ldrawn (fun _ _ _ _ _ _ us hl => match us, hl with | [_, _], _ => rfl) (fun vs H Q E h => ?_) (fun cdv A outer s H vs Q E hr h => ?_)
  · obtain ⟨_, _, rfl, _⟩ := h
    rfl
  · obtain ⟨x, y, rfl, h⟩ := h
    refine ⟨_, (pss_cons (ps_if (pt_cmpR (op_gt) (pe_ix (k_ixl (K := K) rfl) (pv 0) pe_int (fun _ _ => rfl)) pe_int (nomark _)) (pss_cons (ps_set (i := 2) sc_Ldrawn.nd rfl (Or.inl rfl) (pe_op op_mod (pe_ix (k_ixl (K := K) rfl) (pv 0) pe_int (fun _ _ => rfl)) (pv 1))) (pss_cons (ps_asg (pe_op op_fdivW (pe_ix (k_ixl (K := K) rfl) (pv 0) pe_int (fun _ _ => rfl)) (pv 1)) (pg_sub (pv 0) pe_int set_list)) (pss_one (ps_ret (pv 2))))) pss_nil) (pss_cons (ps_asg (pe_op op_add (pe_ix (k_ixl (K := K) rfl) (pv 0) pe_int (fun _ _ => rfl)) pe_int) (pg_sub (pv 0) pe_int set_list)) (pss_cons (ps_if (pt_cmpR (op_le) (pe_ix (k_ixl (K := K) rfl) (pv 0) pe_int (fun _ _ => rfl)) (pe_callB (k_len (K := K) rfl) (by rfl) TX.z_len (by decide +kernel) (pa_cons (pe_ix (k_ixl (K := K) rfl) (pv 0) pe_int (fun _ _ => rfl)) pa_nil)) (nomark _)) (pss_cons (ps_set (i := 3) sc_Ldrawn.nd rfl (Or.inl rfl) (pe_ix (k_ixl (K := K) rfl) (pe_ix (k_ixl (K := K) rfl) (pv 0) pe_int (fun _ _ => rfl)) (pe_op op_sub (pe_ix (k_ixl (K := K) rfl) (pv 0) pe_int (fun _ _ => rfl)) pe_int) (fun _ _ => rfl))) (pss_cons (ps_asg (pe_ifExp (pt_cmpR (op_ge) (pv 3) (pe_op op_pow pe_int pe_int) (nomark _)) (pe_op op_fdivW (pv 3) (pv 1)) pe_int) (pg_sub (pv 0) pe_int set_list)) (pss_one (ps_ret (pe_op op_mod (pv 3) (pv 1)))))) pss_nil) (pss_cons (ps_asg (pe_op op_mod (pe_op op_add (pe_op op_mul (pe_ix (k_ixl (K := K) rfl) (pv 0) pe_int (fun _ _ => rfl)) pe_int) pe_int) pe_int) (pg_sub (pv 0) pe_int set_list)) (pss_one (ps_ret (pe_op op_mod (pe_op op_fdivW (pe_ix (k_ixl (K := K) rfl) (pv 0) pe_int (fun _ _ => rfl)) pe_int) (pv 1)))))))), ?_⟩
    refine r_st (σ' := [some x, some y, none, none]) rfl ?_
    try dsimp only [cxOf]
    obtain ⟨st, sc, ns, many, rfl, rfl, hS, hm, hm2, hF, h⟩ := h
    obtain ⟨⟨i, m, l, hst, hi, hl⟩, hq, hlen⟩ := hS
    have hw : CDivW l many := ⟨hm, by
      have := Nat.log2_lt (n := many.natAbs) (k := 200) (by omega)
      have h3 : many.natAbs < 2 ^ 200 := by omega
      exact Nat.lt_trans (this.mpr h3) (by decide)⟩
    have res : ∀ x : Int, ∃ r : Nat, x % many = (r : Int) ∧ (r : Int) < many := fun x => ⟨(x % many).toNat, by have := Int.emod_nonneg x (by omega : many ≠ 0); omega, by have := Int.emod_nonneg x (by omega : many ≠ 0); have := Int.emod_lt_of_pos x hm; omega⟩
    walk_at "sx"
    refine r_ixl (i := 3) hst rfl ?_
    walk_at "sx"
    refine r_dec (fun g => ?_) (fun g => ?_)
    · walk_at "sx"
      refine r_ixl (i := 3) hst rfl ?_
      walk_at "sx"
      refine r_I hm ?_
      walk_at "sx"
      refine r_ixl (i := 3) hst rfl ?_
      walk_at "sx"
      refine r_I hw ?_
      walk_at "sx"
      refine r_setl (i := 3) hst (by show 3 < 4; decide) ?_
      have f : Fr (Only1 st) H (upd H st (.lst ([V.ref sc, .int i, .int m, .int l].set 3 (.int (l / many))))) := Fr.put hst (fun xs z => by cases z)
      walk_at "sx"
      obtain ⟨r, er, hr2⟩ := res l
      rw [er]
      exact h r _ hr2 ⟨⟨i, m, l / many, upd_same, hi, Int.ediv_nonneg hl (by omega)⟩, hF.elim (fun k => k _) (fun k => sqL_fr hq f k), hlen⟩ f
    walk_at "sx"
    refine r_ixl (i := 1) hst rfl ?_
    walk_at "sx"
    refine r_setl (i := 1) hst (by show 1 < 4; decide) ?_
    have f1 : Fr (Only1 st) H (upd H st (.lst [.ref sc, .int (i + 1), .int m, .int l])) := Fr.put hst (fun xs z => by cases z)
    have e1 : upd H st (.lst ([V.ref sc, .int i, .int m, .int l].set 1 (.int (i + 1)))) = upd H st (.lst [.ref sc, .int (i + 1), .int m, .int l]) := rfl
    rw [e1]
    generalize hH1 : upd H st (.lst [V.ref sc, .int (i + 1), .int m, .int l]) = H1 at f1 ⊢
    have hst1 : H1 st = some (.lst [.ref sc, .int (i + 1), .int m, .int l]) := by rw [← hH1]; exact upd_same
    have hq1 : SqL K H1 sc (ns.map V.int) := hF.elim (fun k => k _) (fun k => sqL_fr hq f1 k)
    walk_at "sx"
    refine r_ixl (i := 1) hst1 rfl ?_
    walk_at "sx"
    refine r_ixl (i := 0) hst1 rfl ?_
    walk_at "sx"
    refine ⟨sc, _, rfl, .inl hq1, ?_⟩
    walk_at "sx"
    refine r_dec (fun g => ?_) (fun g => ?_)
    · rw [List.length_map] at g
      obtain ⟨j, ej⟩ : ∃ j : Nat, i = (j : Int) := ⟨i.toNat, by omega⟩
      subst ej
      have hj : j < ns.length := by omega
      walk_at "sx"
      refine r_ixl (i := 0) hst1 rfl ?_
      walk_at "sx"
      refine r_ixl (i := 1) hst1 rfl ?_
      walk_at "sx"
      have ee : ((j : Int) + 1 - 1) = (j : Int) := by omega
      rw [ee]
      refine ⟨sc, _, _, _, rfl, rfl, hq1, atI_nat (by rw [List.getElem?_map, List.getElem?_eq_getElem hj]; rfl), ?_⟩
      walk_at "sx"
      refine r_I ⟨by decide, by decide, by decide⟩ ?_
      walk_at "sx"
      have fin : ∀ (l' : Int) (QH : Hp → Prop), 0 ≤ l' → (∀ H2, StAt K H2 st sc ns → Fr (Only1 st) H H2 → QH H2) → rSetL (.ref st) (.int 3) (.int l') H1 QH := fun l' QH hl' q => by
        refine r_setl (i := 3) hst1 (by show 3 < 4; decide) ?_
        have f2 : Fr (Only1 st) H1 (upd H1 st (.lst ([V.ref sc, .int ((j : Int) + 1), .int m, .int l].set 3 (.int l')))) := Fr.put hst1 (fun xs z => by cases z)
        exact q _ ⟨⟨(j : Int) + 1, m, l', upd_same, by omega, hl'⟩, hF.elim (fun k => k _) (fun k => sqL_fr hq1 f2 k), hlen⟩ (f1.trans f2)
      refine r_dec (fun g2 => ?_) (fun g2 => ?_)
      · walk_at "sx"
        refine r_I hw ?_
        walk_at "sx"
        refine fin _ _ (Int.ediv_nonneg (Int.le_trans (by decide) g2) (Int.le_of_lt hm)) (fun H2 s2 f2 => ?_)
        walk_at "sx"
        refine r_I hm ?_
        walk_at "sx"
        obtain ⟨r, er, hr2⟩ := res ns[j]
        rw [er]
        exact h r _ hr2 s2 f2
      · walk_at "sx"
        refine fin _ _ (by decide) (fun H2 s2 f2 => ?_)
        walk_at "sx"
        refine r_I hm ?_
        walk_at "sx"
        obtain ⟨r, er, hr2⟩ := res ns[j]
        rw [er]
        exact h r _ hr2 s2 f2
    walk_at "sx"
    refine r_ixl (i := 2) hst1 rfl ?_
    walk_at "sx"
    refine r_I (Or.inr ⟨by decide, by decide⟩) ?_
    walk_at "sx"
    refine r_I (by decide) ?_
    walk_at "sx"
    refine r_setl (i := 2) hst1 (by show 2 < 4; decide) ?_
    have e2 : ∀ v, upd H1 st (.lst ([V.ref sc, .int (i + 1), .int m, .int l].set 2 v)) = upd H1 st (.lst [.ref sc, .int (i + 1), v, .int l]) := fun v => rfl
    rw [e2]
    generalize (m * 48271 + 11) % 2147483647 = m2
    have f2 : Fr (Only1 st) H1 (upd H1 st (.lst [V.ref sc, .int (i + 1), .int m2, .int l])) := Fr.put hst1 (fun xs z => by cases z)
    generalize hH2 : upd H1 st (.lst [V.ref sc, .int (i + 1), .int m2, .int l]) = H2 at f2 ⊢
    have hst2 : H2 st = some (.lst [.ref sc, .int (i + 1), .int m2, .int l]) := by rw [← hH2]; exact upd_same
    walk_at "sx"
    refine r_ixl (i := 2) hst2 rfl ?_
    walk_at "sx"
    refine r_I ⟨by decide, by decide +kernel⟩ ?_
    walk_at "sx"
    refine r_I hm ?_
    walk_at "sx"
    obtain ⟨r, er, hr2⟩ := res (m2 / 7)
    rw [er]
    exact h r _ hr2 ⟨⟨i + 1, m2, l, hst2, by omega, hl⟩, hF.elim (fun k => k _) (fun k => sqL_fr hq1 f2 k), hlen⟩ (f1.trans f2)
theorem sc_Lfar : FnScope ["_law_state", "_law_most", "_law_far_here"] ["_law_state", "_law_most"] (defScope s_Lfar) := ⟨rfl, rfl, rfl, by decide +kernel, rfl, by decide +kernel, by decide +kernel⟩
theorem ok_Lfar (TX : Txt K mg) : OkF P w K mg base 2 (He.ga K "_law_far") ["_law_state", "_law_most"] (sp_Lfar K) := by
  obtain ⟨⟨fd_Ldrawn, G_Ldrawn, b_Ldrawn⟩, k_Ldrawn⟩ := (ok_Ldrawn TX : OkF P w K mg base _ _ _ _)
  refine okF TX.f_Lfar sc_Lfar (fun _ _ _ _ _ _ us hl => match us, hl with | [_, _], _ => rfl) (fun vs H Q E h => ?_) (fun cdv A outer s H vs Q E hr h => ?_)
  · obtain ⟨_, _, rfl, _⟩ := h
    rfl
  · obtain ⟨x, y, rfl, h⟩ := h
    refine ⟨_, (pss_cons (ps_set (i := 2) sc_Lfar.nd rfl (Or.inl rfl) (pe_ix (k_ixl (K := K) rfl) (pe_lst (pa_cons pe_int (pa_cons pe_int (pa_cons (pe_op op_pow pe_int pe_int) pa_nil)))) (pe_call G_Ldrawn (hr.mono (by decide)) (by rfl) TX.g_Ldrawn k_Ldrawn b_Ldrawn .nil pE (pa_cons (pv 0) (pa_cons pe_int pa_nil))) (fun _ _ => rfl))) (pss_one (ps_ret (pe_ix (k_ixl (K := K) rfl) (pe_lst (pa_cons (pe_op op_sub (pe_op op_sub pe_int pe_int) (pe_call G_Ldrawn (hr.mono (by decide)) (by rfl) TX.g_Ldrawn k_Ldrawn b_Ldrawn .nil pE (pa_cons (pv 0) (pa_cons (pv 2) pa_nil)))) (pa_cons (pe_op op_add (pe_op op_add (pv 1) pe_int) (pe_call G_Ldrawn (hr.mono (by decide)) (by rfl) TX.g_Ldrawn k_Ldrawn b_Ldrawn .nil pE (pa_cons (pv 0) (pa_cons (pv 2) pa_nil)))) pa_nil))) (pe_call G_Ldrawn (hr.mono (by decide)) (by rfl) TX.g_Ldrawn k_Ldrawn b_Ldrawn .nil pE (pa_cons (pv 0) (pa_cons pe_int pa_nil))) (fun _ _ => rfl))))), ?_⟩
    refine r_st (σ' := [some x, some y, none]) rfl ?_
    try dsimp only [cxOf]
    obtain ⟨st, sc, ns, m, rfl, rfl, hS, hF, hq⟩ := h
    walk_at "sx"
    refine r_I ⟨by decide, by decide, by decide⟩ ?_
    walk_at "sx"
    refine r_newL (by show 3 ≤ 2000; decide) (fun t1 H1 ht1 et1 f1 => ?_)
    walk_at "sx"
    refine ⟨st, sc, ns, 3, rfl, rfl, hS.fr0 f1, by decide, by decide, hF, fun r2 H2 hr2 hS2 f2 => ?_⟩
    have et2 := f2.old _ _ et1 (fun z => hS.some (z ▸ ht1))
    obtain ⟨n, en, hn1, hn2⟩ : ∃ n : Int, ([V.int 1, V.int 20, V.int ((10 : Int) ^ (29 : Int).toNat)] : List V)[r2]? = some (.int n) ∧ 0 < n ∧ n < 2 ^ 200 := by
      have : r2 = 0 ∨ r2 = 1 ∨ r2 = 2 := by omega
      rcases this with e | e | e
      · subst e; exact ⟨1, rfl, by decide, by decide⟩
      · subst e; exact ⟨20, rfl, by decide, by decide⟩
      · subst e; exact ⟨_, rfl, by decide, by decide⟩
    refine r_ixl et2 en ?_
    have g2 : Fr (Only1 st) H H2 := f1.up.trans f2
    walk_at "sx"
    refine ⟨st, sc, ns, n, rfl, rfl, hS2, hn1, hn2, hF, fun r3 H3 hr3 hS3 f3 => ?_⟩
    walk_at "sx"
    refine ⟨st, sc, ns, n, rfl, rfl, hS3, hn1, hn2, hF, fun r4 H4 hr4 hS4 f4 => ?_⟩
    walk_at "sx"
    refine r_newL (by show 2 ≤ 2000; decide) (fun t5 H5 ht5 et5 f5 => ?_)
    walk_at "sx"
    refine ⟨st, sc, ns, 2, rfl, rfl, hS4.fr0 f5, by decide, by decide, hF, fun r6 H6 hr6 hS6 f6 => ?_⟩
    have et6 := f6.old _ _ et5 (fun z => hS4.some (z ▸ ht5))
    have g6 : Fr (Only1 st) H H6 := (((g2.trans f3).trans f4).trans f5.up).trans f6
    have : r6 = 0 ∨ r6 = 1 := by omega
    rcases this with e | e
    · subst e
      exact r_ixl et6 rfl (hq _ H6 (.inl (by omega)) hS6 g6)
    · subst e
      exact r_ixl et6 rfl (hq _ H6 (.inr (by omega)) hS6 g6)
theorem sc_t_init : FnScope ["self", "agents", "locks", "lock"] ["self", "agents", "locks"] (defScope s_t_init) := ⟨rfl, rfl, rfl, by decide +kernel, rfl, by decide +kernel, by decide +kernel⟩
theorem ok_t_init (TX : Txt K mg) : OkF P w K mg base 1 (He.ma K (He.ga K "Table") "__init__") ["self", "agents", "locks"] (sp_t_init K) := by
  refine okF TX.f_t_init sc_t_init (fun _ _ _ _ _ _ us hl => match us, hl with | [_, _, _], _ => rfl) (fun vs H Q E h => ?_) (fun cdv A outer s H vs Q E hr h => ?_)
  · obtain ⟨_, _, _, rfl, _⟩ := h
    rfl
  · obtain ⟨x, y, z, rfl, h⟩ := h
    refine ⟨_, (pss_cons (ps_if (PW.pt (pw_or (pt_not (pt_chain op_le op_le pe_int (pv 1) (pe_glob (v := .int 8) rfl TX.i_MOST_AGENTS.choose_spec ⟨_, rfl⟩))) (pw_or1 (pt_not (pt_chain op_le op_le pe_int (pv 2) (pe_glob (v := .int 12) rfl TX.i_MOST_LOCKS.choose_spec ⟨_, rfl⟩)))))) (pss_one (ps_raise rfl (takes_of rfl rfl rfl rfl) (pmk_own PySem.F.excBase_ValueError TX.e_NoTable.ex TX.e_NoTable.g TX.e_NoTable.k (raises_own TX.e_NoTable.b TX.e_NoTable.t) rfl))) pss_nil) (pss_cons (kp_fld (K := K) rfl (pv 0) (pe_op op_rep (pe_lst (pa_cons pe_non pa_nil)) (pv 2)) rfl) (pss_cons (kp_fld (K := K) rfl (pv 0) (pe_lc (own := [("lock", 3)]) (g := gName 3) rfl sc_t_init.nd (pi_range1 (by rfl) TX.z_range (pa_cons (pv 2) pa_nil)) (blkOk_by (N := ["self", "agents", "locks", "lock"]) (sc := defScope s_t_init) (by decide +kernel)) (fun _ _ _ _ _ => pg_name (i := 3) sc_t_init.nd rfl (Or.inl rfl)) (fun _ _ _ _ _ => by exact pts_nil) (fun _ _ _ _ _ => by exact (pe_lst pa_nil))) rfl) (pss_cons (kp_fld (K := K) rfl (pv 0) (pe_op op_rep (pe_lst (pa_cons pe_int pa_nil)) (pv 2)) rfl) (pss_cons (kp_fld (K := K) rfl (pv 0) (pe_op op_rep (pe_lst (pa_cons pe_non pa_nil)) (pv 1)) rfl) (pss_one (kp_fld (K := K) rfl (pv 0) (pe_op op_rep (pe_lst (pa_cons pe_int pa_nil)) (pv 1)) rfl))))))), ?_⟩
    refine r_st (σ' := [some x, some y, some z, none]) rfl ?_
    try dsimp only [cxOf]
    obtain ⟨p, dx, a, l, rfl, rfl, rfl, hp, hb, ho⟩ := h
    walk_at "sx"
    refine r_between (fun _ q => by walk_at "sx"; exact q) (fun _ q => q) ?_
    walk_at "sx"
    refine r_decN (fun g => ?_) (fun g => ?_)
    · exact hb (fun z => g z.1)
    walk_at "sx"
    refine r_between (fun _ q => by walk_at "sx"; exact q) (fun _ q => q) ?_
    walk_at "sx"
    refine r_decN (fun g2 => ?_) (fun g2 => ?_)
    · exact hb (fun z => g2 z.2)
    have hok : TbOk a l := ⟨g, g2⟩
    obtain ⟨n, rfl⟩ : ∃ n : Nat, a = (n : Int) := ⟨a.toNat, by omega⟩
    obtain ⟨m, rfl⟩ : ∃ m : Nat, l = (m : Int) := ⟨l.toNat, by omega⟩
    have hs : (Tb.new n m).Sz := Tb.Sz.new (by omega) (by omega) (by omega) (by omega)
    replace ho := ho hok
    rw [Int.toNat_natCast, Int.toNat_natCast] at ho
    walk_at "sx"
    refine r_newL (by show 1 ≤ 2000; decide) (fun t1 H1 ht1 et1 h1 => ?_)
    walk_at "sx"
    refine r_rep et1 (by omega) (fun ow H2 how eow h2 => ?_)
    walk_at "sx"
    refine r_putOn ((h1.trans h2).lst hp) TX.tb.c TX.tb.o (by show 0 < 1000; decide) (fun H3 e3 g1 => ?_)
    walk_at "sx"
    refine r_lcMR (n := m) (fun _ => []) (by omega) (fun Q q => by walk_at "sx"; exact q) (fun _ => rfl) (fun i H' hi f Q q => by walk_at "sx"; exact r_newL (by show 0 ≤ 2000; decide) q) (fun li ls H4 hli hll w => ?_)
    walk_at "sx"
    refine r_putOn (w.fr.lst e3) TX.tb.c TX.tb.l (by show 1 < 1000; decide) (fun H5 e5 g2' => ?_)
    walk_at "sx"
    refine r_newL (by show 1 ≤ 2000; decide) (fun t2 H6 ht2 et2 h6 => ?_)
    walk_at "sx"
    refine r_rep et2 (by omega) (fun ti H7 hti eti h7 => ?_)
    walk_at "sx"
    refine r_putOn ((h6.trans h7).lst e5) TX.tb.c TX.tb.t (by show 2 < 1000; decide) (fun H8 e8 g3 => ?_)
    walk_at "sx"
    refine r_newL (by show 1 ≤ 2000; decide) (fun t3 H9 ht3 et3 h9 => ?_)
    walk_at "sx"
    refine r_rep et3 (by omega) (fun wa H10 hwa ewa h10 => ?_)
    walk_at "sx"
    refine r_putOn ((h9.trans h10).lst e8) TX.tb.c TX.tb.w (by show 3 < 1000; decide) (fun H11 e11 g4 => ?_)
    walk_at "sx"
    refine r_newL (by show 1 ≤ 2000; decide) (fun t4 H12 ht4 et4 h12 => ?_)
    walk_at "sx"
    refine r_rep et4 (by omega) (fun ro H13 hro ero h13 => ?_)
    walk_at "sx"
    refine r_putOn ((h12.trans h13).lst e11) TX.tb.c TX.tb.r (by show 4 < 1000; decide) (fun H14 e14 g5 => ?_)
    walk_at "sx"
    obtain ⟨q1, q2, q3⟩ := five (K := K) (T := Tb.new n m) hs hp fs_nil (h1.trans h2) (h1.fresh how) (by rw [eow]; simp [Tb.new, oV]) g1 w (by rw [hll]; simp [Tb.new]) (fun i _ => by rw [Tb.new_ln]; rfl) g2' (h6.trans h7) (h6.fresh hti) (by rw [eti]; simp [Tb.new, nV]) g3 (h9.trans h10) (h9.fresh hwa) (by rw [ewa]; simp [Tb.new, oV]) g4 (h12.trans h13) (h12.fresh hro) (by rw [ero]; simp [Tb.new, nV]) g5 e14
    exact ho _ H14 rfl q1 q2 q3
theorem sc_Lstart : FnScope ["_law_script", "_law_mixed", "_law_cell"] ["_law_script"] (defScope s_Lstart) := ⟨rfl, rfl, rfl, by decide +kernel, rfl, by decide +kernel, by decide +kernel⟩
theorem ok_Lstart (TX : Txt K mg) : OkF P w K mg base 1 (He.ga K "_law_start") ["_law_script"] (sp_Lstart K) := by
  refine okF TX.f_Lstart sc_Lstart (fun _ _ _ _ _ _ us hl => match us, hl with | [_], _ => rfl) (fun vs H Q E h => ?_) (fun cdv A outer s H vs Q E hr h => ?_)
  · obtain ⟨_, rfl, _⟩ := h
    rfl
  · obtain ⟨x, rfl, h⟩ := h
    refine ⟨_, (pss_cons (ps_set (i := 1) sc_Lstart.nd rfl (Or.inl rfl) pe_int) (pss_cons (ps_for pOwn rfl (k_listI (K := K) rfl (pv 0)) (pg_name (i := 2) sc_Lstart.nd rfl (Or.inl rfl)) (pss_one (ps_set (i := 1) sc_Lstart.nd rfl (Or.inl rfl) (pe_op op_mod (pe_op op_add (pe_op op_add (pe_op op_mul (pv 1) pe_int) (pv 2)) pe_int) pe_int)))) (pss_one (ps_ret (pe_lst (pa_cons (pv 0) (pa_cons pe_int (pa_cons (pv 1) (pa_cons pe_int pa_nil))))))))), ?_⟩
    refine r_st (σ' := [some x, none, none]) rfl ?_
    try dsimp only [cxOf]
    obtain ⟨sc, ns, rfl, hs, hl, h⟩ := h
    walk_at "sx"
    refine r_forL (fun _ q => by walk_at "sx"; exact q) hs (fun i σ' H' => ∃ (m : Int) (c : Option V), σ' = [some (.ref sc), some (.int m), c] ∧ H' = H) ⟨1, none, rfl, rfl⟩ (fun i σ' H' _ ⟨m, c, _, e⟩ => by rw [e]; exact hs) (fun i x σ' H' hi p => ?_) (fun σ' H' p => ?_)
    · obtain ⟨m, c, rfl, rfl⟩ := p
      obtain ⟨n, hn, rfl⟩ : ∃ n, ns[i]? = some n ∧ x = .int n := by
        rw [List.getElem?_map] at hi
        cases q : ns[i]? with
        | none => rw [q] at hi; cases hi
        | some n => rw [q] at hi; exact ⟨n, rfl, (Option.some.inj hi).symm⟩
      walk_at "sx"
      refine r_I (Or.inr ⟨by decide, by decide⟩) ?_
      walk_at "sx"
      refine r_I (by decide) ?_
      walk_at "sx"
      exact ⟨_, _, rfl, rfl⟩
    · obtain ⟨m, c, rfl, rfl⟩ := p
      walk_at "sx"
      refine r_newL (by show 4 ≤ 2000; decide) (fun p H1 hp e f => ?_)
      exact h p H1 hp ⟨⟨0, m, 0, e, by decide, by decide⟩, sqL_fr hs f (fun z => z), hl⟩ f
theorem sc_Lkind : FnScope ["_law_work", "e", "_law_words", "_law_kinds"] ["_law_work"] (defScope s_Lkind) := ⟨rfl, rfl, rfl, by decide +kernel, rfl, by decide +kernel, by decide +kernel⟩
def suiteOf (st : Stmt) : List Stmt := match defBody st with
  | [.Try _ [.ExceptHandler _ _ b _] _ _ _] => b
  | _ => []
theorem su_Lkind {X : Cx} (TX : Txt X.K X.mg) {g : Addr} {cdg : Value} {s : Shared} {H : Hp} {a : Addr} {oe : Obj} {pn : List (Addr × Obj)} {w : Wd} (C : ExcC X.K (He.ga X.K w.str)) (hz' : Zc (.ref (He.ga X.K w.str)) none oe) (hf : ∃ vs, oe.data = .fields vs) :
    ∃ t, PSs ((cxOf C8.CX0 X.prog X.w X.K X.mg X.base ["_law_work", "e", "_law_words", "_law_kinds"] "_law_kind" (defScope s_Lkind) g cdg X.A X.stack s H C8.E0).nox.suite a ((a, oe) :: pn)) (suiteOf s_Lkind) t ∧ ∀ (D : Ends) (x0 x2 x3 : Option V) (H' : Hp), (∀ H2, Fr No H' H2 → D.rt (.str w.str) H2) → t D [x0, some (.ref a), x2, x3] H' := by
  have hW := TX.wk
  refine ⟨_, (pss_cons (ps_set (i := 2) sc_Lkind.nd rfl (Or.inl rfl) (pe_lst (pa_cons pe_str (pa_cons pe_str (pa_cons pe_str (pa_cons pe_str (pa_cons pe_str (pa_cons pe_str (pa_cons pe_str (pa_cons pe_str (pa_cons pe_str pa_nil))))))))))) (pss_cons (ps_set (i := 3) sc_Lkind.nd rfl (Or.inl rfl) (pe_lst (pa_cons (pe_callB (call_isE C hz' hf) (by rfl) TX.z_isinstance (by decide +kernel) (pa_cons (pv 1) (pa_cons (pe_glob (v := .ref (He.ga X.K "NoTable")) rfl TX.e_NoTable.g rfl) pa_nil))) (pa_cons (pe_callB (call_isE C hz' hf) (by rfl) TX.z_isinstance (by decide +kernel) (pa_cons (pv 1) (pa_cons (pe_glob (v := .ref (He.ga X.K "NoHall")) rfl TX.e_NoHall.g rfl) pa_nil))) (pa_cons (pe_callB (call_isE C hz' hf) (by rfl) TX.z_isinstance (by decide +kernel) (pa_cons (pv 1) (pa_cons (pe_glob (v := .ref (He.ga X.K "NoAgent")) rfl TX.e_NoAgent.g rfl) pa_nil))) (pa_cons (pe_callB (call_isE C hz' hf) (by rfl) TX.z_isinstance (by decide +kernel) (pa_cons (pv 1) (pa_cons (pe_glob (v := .ref (He.ga X.K "NoLock")) rfl TX.e_NoLock.g rfl) pa_nil))) pa_nil)))))) (pss_cons (ps_set (i := 3) sc_Lkind.nd rfl (Or.inl rfl) (pe_op op_cat (pv 3) (pe_lst (pa_cons (pe_callB (call_isE C hz' hf) (by rfl) TX.z_isinstance (by decide +kernel) (pa_cons (pv 1) (pa_cons (pe_glob (v := .ref (He.ga X.K "NoHouse")) rfl TX.e_NoHouse.g rfl) pa_nil))) (pa_cons (pe_callB (call_isE C hz' hf) (by rfl) TX.z_isinstance (by decide +kernel) (pa_cons (pv 1) (pa_cons (pe_glob (v := .ref (He.ga X.K "NoLetter")) rfl TX.e_NoLetter.g rfl) pa_nil))) (pa_cons (pe_callB (call_isE C hz' hf) (by rfl) TX.z_isinstance (by decide +kernel) (pa_cons (pv 1) (pa_cons (pe_glob (v := .ref (He.ga X.K "Stopped")) rfl TX.e_Stopped.g rfl) pa_nil))) (pa_cons (pe_callB (call_isE C hz' hf) (by rfl) TX.z_isinstance (by decide +kernel) (pa_cons (pv 1) (pa_cons (pe_glob (v := .ref (He.ga X.K "Waits")) rfl TX.e_Waits.g rfl) pa_nil))) pa_nil))))))) (pss_cons (ps_set (i := 3) sc_Lkind.nd rfl (Or.inl rfl) (pe_op op_cat (pv 3) (pe_lst (pa_cons (pe_callB (call_isE C hz' hf) (by rfl) TX.z_isinstance (by decide +kernel) (pa_cons (pv 1) (pa_cons (pe_glob (v := .ref (He.ga X.K "Holds")) rfl TX.e_Holds.g rfl) pa_nil))) (pa_cons (pe_callB (call_isE C hz' hf) (by rfl) TX.z_isinstance (by decide +kernel) (pa_cons (pv 1) (pa_cons (pe_glob (v := .ref (He.ga X.K "NotHeld")) rfl TX.e_NotHeld.g rfl) pa_nil))) (pa_cons (pe_callB (call_isE C hz' hf) (by rfl) TX.z_isinstance (by decide +kernel) (pa_cons (pv 1) (pa_cons (pe_glob (v := .ref (He.ga X.K "Up")) rfl TX.e_Up.g rfl) pa_nil))) pa_nil)))))) (pss_cons (ps_if (PW.pt (pw_or (pt_cmpR (op_ne) (pe_bm PySem.F.plainAttrs_list PySem.F.slot_list_count PySem.F.type_list_count mt_lcountV (pv 3) (pa_cons pe_bl pa_nil)) pe_int (nomark _)) (pw_or1 (pt_not (pt_val (pe_callB (call_isE C hz' hf) (by rfl) TX.z_isinstance (by decide +kernel) (pa_cons (pv 1) (pa_cons (pe_bltn (v := .ty "ValueError") (by rfl) TX.z_ValueError (by decide +kernel) rfl) pa_nil)))))))) (pss_one (ps_ret pe_str)) pss_nil) (pss_one (ps_ret (pe_ix (k_ixl (K := X.K) rfl) (pe_op op_cat (pv 2) (pe_lst (pa_cons pe_str (pa_cons pe_str pa_nil)))) (pe_bm PySem.F.plainAttrs_list PySem.F.slot_list_index PySem.F.type_list_index mt_index (pv 3) (pa_cons pe_bl pa_nil)) (fun _ _ => rfl))))))))), ?_⟩
  intro D x0 x2 x3 H' hq
  dsimp only [cxOf]
  walk_at "sx"
  refine r_newL (by show 9 ≤ 2000; decide) (fun p1 H1 hp1 e1 f1 => ?_)
  walk_at "sx"
  refine r_isE hW .noTable ?_
  walk_at "sx"
  refine r_isE hW .noHall ?_
  walk_at "sx"
  refine r_isE hW .noAgent ?_
  walk_at "sx"
  refine r_isE hW .noLock ?_
  walk_at "sx"
  refine r_newL (by show 4 ≤ 2000; decide) (fun p2 H2 hp2 e2 f2 => ?_)
  walk_at "sx"
  refine r_isE hW .noHouse ?_
  walk_at "sx"
  refine r_isE hW .noLetter ?_
  walk_at "sx"
  refine r_isE hW .stopped ?_
  walk_at "sx"
  refine r_isE hW .waits ?_
  walk_at "sx"
  refine r_newL (by show 4 ≤ 2000; decide) (fun p3 H3 hp3 e3 f3 => ?_)
  walk_at "sx"
  refine r_cat (f3.lst e2) e3 (by show 4 + 4 ≤ 2000; decide) (fun p4 H4 hp4 e4 f4 => ?_)
  walk_at "sx"
  refine r_isE hW .holds ?_
  walk_at "sx"
  refine r_isE hW .notHeld ?_
  walk_at "sx"
  refine r_isE hW .up ?_
  walk_at "sx"
  refine r_newL (by show 3 ≤ 2000; decide) (fun p5 H5 hp5 e5 f5 => ?_)
  walk_at "sx"
  refine r_cat (f5.lst e4) e5 (by show 8 + 3 ≤ 2000; decide) (fun p6 H6 hp6 e6 f6 => ?_)
  have e6' : H6 p6 = some (.lst w.row) := e6
  walk_at "sx"
  refine r_tyL e6' ?_
  walk_at "sx"
  refine ⟨p6, w.row, .bl true, rfl, rfl, SqL.of e6', rfl, w.row_flat, ?_⟩
  rw [w.row_cnt]
  walk_at "sx"
  refine r_ne rfl ?_
  walk_at "sx"
  refine r_decN (fun g => absurd rfl g) (fun _ => ?_)
  walk_at "sx"
  refine r_isEV hW ?_
  walk_at "sx"
  refine r_newL (by show 2 ≤ 2000; decide) (fun p7 H7 hp7 e7 f7 => ?_)
  walk_at "sx"
  refine r_cat ((((((f2.trans f3).trans f4).trans f5).trans f6).trans f7).lst e1) e7 (by show 9 + 2 ≤ 2000; decide) (fun p8 H8 hp8 e8 f8 => ?_)
  have e8' : H8 p8 = some (.lst Wd.words) := e8
  have e68 : H8 p6 = some (.lst w.row) := f8.lst (f7.lst e6')
  walk_at "sx"
  refine r_tyL e68 ?_
  walk_at "sx"
  refine ⟨p6, w.row, .bl true, w.ix, .bl true, rfl, rfl, SqL.of e68, rfl, w.row_flat, w.row_ix, rfl, w.row_no, ?_⟩
  refine r_ixl e8' w.word_ix ?_
  exact hq H8 (((((((f1.trans f2).trans f3).trans f4).trans f5).trans f6).trans f7).trans f8)
theorem gv_Lkind {X : Cx} (TX : Txt X.K X.mg) {g : Addr} {cdg : Value} {q : Str} : LamX.GivesTo X ["_law_work", "e", "_law_words", "_law_kinds"] "_law_kind" (defScope s_Lkind) g cdg (defBody s_Lkind) "_law_work" q (TKind X.K) := by
  intro f c' s H Q tl act hco h
  have hW := TX.wk
  have hgl : Gl (cxOf C8.CX0 X.prog X.w X.K X.mg X.base ["_law_work", "e", "_law_words", "_law_kinds"] "_law_kind" (defScope s_Lkind) g cdg X.A X.stack s H C8.E0).nox "LockError" := by rfl
  refine ⟨_, pss_one (ps_try_as (X := (cxOf C8.CX0 X.prog X.w X.K X.mg X.base ["_law_work", "e", "_law_words", "_law_kinds"] "_law_kind" (defScope s_Lkind) g cdg X.A X.stack s H C8.E0).nox) (c := .ref (He.ga X.K "LockError")) (i := 1)
    (tb := fun W D σ H => ∃ Ech : XK, (∀ cls d σ' H', Ech cls d H' → W cls d σ' H') ∧ σ[0]? = some (some (.ref f)) ∧ H c' = some (LamX.CodeO c' q) ∧ tl Ech H D.rt)
    (ts := tsKind X.K) (Wout := fun _ _ _ _ => False) rfl rfl sc_Lkind.nd rfl rfl ⟨hgl, by decide +kernel, .inl TX.e_LockError.g⟩ LamX.takes0 (fun W pn xe tk _ => ?_) (fun a oe cls d pn hz hf => ?_)), ?_⟩
  · refine ⟨fun pins s' σ H' D I h' => ?_⟩
    obtain ⟨Ech, hV, h1, h2, h3⟩ := h'
    exact (pss_one (ps_ret (act W pn xe Ech _ _ tk hV))).run pins s' σ H' D I ⟨h1, h2, h3⟩
  · refine pss_ofL (fun D σ H' hlen h' => ?_)
    obtain ⟨w, rfl, rfl, ⟨σ0, rfl⟩, hq⟩ := h'
    obtain ⟨t, ht, hq'⟩ := su_Lkind TX (g := g) (cdg := cdg) (s := s) (H := H) (a := a) (pn := pn) (hW.x w) hz hf
    obtain ⟨x0, x2, x3, eσ⟩ := slots4 hlen
    refine ⟨t, ht, ?_⟩
    rw [eσ]
    exact hq' D x0 x2 x3 H' hq
  · refine ⟨fun cls d H' => d = none ∧ ∃ w : Wd, cls = w.cls X.K ∧ ∀ H2, Fr No H' H2 → Q (.str w.str) H2, fun cls d σ' H' hE => ?_, rfl, hco, h⟩
    obtain ⟨rfl, w, rfl, hq⟩ := hE
    exact ⟨true, hW.m w, fun _ a _ => ⟨w, rfl, rfl, ⟨_, rfl⟩, hq⟩, fun z => nomatch z⟩

theorem sc_law : FnScope ["_law_script", "_law_state", "_law_turn", "_law_agents", "_law_locks", "_law_odd", "_law_table_here", "_law_far_here", "_law_beyond", "_law_some", "_law_other", "_law_work"] ["_law_script"] (defScope s_law) := ⟨rfl, rfl, rfl, by decide +kernel, rfl, by decide +kernel, by decide +kernel⟩
theorem ok_law (TX : Txt K mg) (TB : TBs base mg K) {fd : FuncData} (F : FunD K "law" "law" (defArgs s_law) (defBody s_law) (defScope s_law) [] [] (He.ga K "law") fd) : FnOk P w K mg base (L2.CX P w) 11 (He.ga K "law") fd ["_law_script"] (sp_law (Ts K) K) := by
  obtain ⟨fd_Lkind, F_Lkind⟩ := TX.f_Lkind
  have bb_Lkind := FunD.bindsN (ps := ["_law_work"]) F_Lkind (fun _ _ _ _ _ _ us hl => match us, hl with | [_], _ => rfl)
  have kk_Lkind := F_Lkind.kp
  obtain ⟨oc, od, dV, kV, doc, pm, an, cdg, ct, osl, efd, lk_Lkind, hc_Lkind, _, _⟩ := F_Lkind.ex
  subst efd
  obtain ⟨⟨fd_Lsame, G_Lsame, b_Lsame⟩, k_Lsame⟩ := (ok_Lsame TX : OkF P w K mg base _ _ _ _)
  obtain ⟨⟨fd_least, G_least, b_least⟩, k_least⟩ := (ok_least TX : OkF P w K mg base _ _ _ _)
  obtain ⟨⟨fd_chain, G_chain, b_chain⟩, k_chain⟩ := (ok_chain TX : OkF P w K mg base _ _ _ _)
  obtain ⟨⟨fd_rings, G_rings, b_rings⟩, k_rings⟩ := (ok_rings TX : OkF P w K mg base _ _ _ _)
  obtain ⟨⟨fd_Lis, G_Lis, b_Lis⟩, k_Lis⟩ := (ok_Lis TX : OkF P w K mg base _ _ _ _)
  obtain ⟨⟨fd_Ltable, G_Ltable, b_Ltable⟩, k_Ltable⟩ := (ok_Ltable TX : OkF P w K mg base _ _ _ _)
  obtain ⟨⟨fd_t_ask, G_t_ask, b_t_ask⟩, k_t_ask⟩ := (ok_t_ask TX : OkF P w K mg base _ _ _ _)
  obtain ⟨⟨fd_Lworks, G_Lworks, b_Lworks⟩, k_Lworks⟩ := (ok_Lworks TX TB : OkF P w K mg base _ _ _ _)
  obtain ⟨⟨fd_Lfar, G_Lfar, b_Lfar⟩, k_Lfar⟩ := (ok_Lfar TX : OkF P w K mg base _ _ _ _)
  obtain ⟨⟨fd_t_init, G_t_init, b_t_init⟩, k_t_init⟩ := (ok_t_init TX : OkF P w K mg base _ _ _ _)
  obtain ⟨⟨fd_Ldrawn, G_Ldrawn, b_Ldrawn⟩, k_Ldrawn⟩ := (ok_Ldrawn TX : OkF P w K mg base _ _ _ _)
  obtain ⟨⟨fd_Lstart, G_Lstart, b_Lstart⟩, k_Lstart⟩ := (ok_Lstart TX : OkF P w K mg base _ _ _ _)
  refine fnFL (p := ("law", none)) F sc_law (fun vs H Q E h => ?_) (fun A outer s H vs Q E hr h => ?_)
  · obtain ⟨_, rfl, _⟩ := h
    rfl
  · obtain ⟨x, rfl, h⟩ := h
    refine ⟨_, (pss_cons (ps_set (i := 1) sc_law.nd rfl (Or.inl rfl) (pe_call G_Lstart (hr.mono (by decide)) (by rfl) TX.g_Lstart k_Lstart b_Lstart .nil pE (pa_cons (pv 0) pa_nil))) (pss_cons (ps_for pOwn rfl (pi_range1 (by rfl) TX.z_range (pa_cons pe_int pa_nil)) (pg_name (i := 2) sc_law.nd rfl (Or.inl rfl)) (pss_cons (ps_set (i := 3) sc_law.nd rfl (Or.inr rfl) (pe_op op_add pe_int (pe_call G_Ldrawn (hr.mono (by decide)) (by rfl) TX.g_Ldrawn k_Ldrawn b_Ldrawn .nil pE (pa_cons (pv 1) (pa_cons pe_int pa_nil))))) (pss_cons (ps_set (i := 4) sc_law.nd rfl (Or.inr rfl) (pe_op op_add pe_int (pe_call G_Ldrawn (hr.mono (by decide)) (by rfl) TX.g_Ldrawn k_Ldrawn b_Ldrawn .nil pE (pa_cons (pv 1) (pa_cons pe_int pa_nil))))) (pss_cons (ps_set (i := 5) sc_law.nd rfl (Or.inr rfl) (pe_lst (pa_cons (pe_ix (k_ixl (K := K) rfl) (pe_lst (pa_cons pe_int (pa_cons (pe_call G_Lfar (hr.mono (by decide)) (by rfl) TX.g_Lfar k_Lfar b_Lfar .nil pE (pa_cons (pv 1) (pa_cons pe_int pa_nil))) pa_nil))) (pe_call G_Ldrawn (hr.mono (by decide)) (by rfl) TX.g_Ldrawn k_Ldrawn b_Ldrawn .nil pE (pa_cons (pv 1) (pa_cons pe_int pa_nil))) (fun _ _ => rfl)) (pa_cons (pe_ix (k_ixl (K := K) rfl) (pe_lst (pa_cons pe_int (pa_cons (pe_call G_Lfar (hr.mono (by decide)) (by rfl) TX.g_Lfar k_Lfar b_Lfar .nil pE (pa_cons (pv 1) (pa_cons pe_int pa_nil))) pa_nil))) (pe_call G_Ldrawn (hr.mono (by decide)) (by rfl) TX.g_Ldrawn k_Ldrawn b_Ldrawn .nil pE (pa_cons (pv 1) (pa_cons pe_int pa_nil))) (fun _ _ => rfl)) pa_nil)))) (pss_cons (ps_if (pt_cmpR (op_ne) (LamX.pe_lamcall (T := Ts K) (TT := TKind K) (k := 3) (by rfl) TX.g_Lkind kk_Lkind lk_Lkind hc_Lkind bb_Lkind sc_Lkind rfl (Or.inl rfl) (gv_Lkind (X := _) TX) (TB _ (List.mem_cons_of_mem _ (List.mem_cons_self ..))) rfl (List.mem_map.mpr ⟨_, (List.mem_cons_of_mem _ (List.mem_cons_self ..)), rfl⟩) (hu_nodup TX.ts (List.mem_cons_of_mem _ (List.mem_cons_self ..))) (hr.mono (by decide)) (LamX.lamS_by (show LamX.lamSB (defScope s_law) _ = true from by decide +kernel)) rfl (fun _ _ _ _ _ => rfl) (fun A outer s H E f c' hr => by exact (pe_make TX.k_Table G_t_init (hr.mono (by decide)) (by rfl) TX.g_Table b_t_init .nil pLam (pa_cons (pe_ix (k_ixl (K := K) rfl) (pv 5) pe_int (fun _ _ => rfl)) (pa_cons (pv 4) pa_nil))))) pe_str (nomark _)) (pss_one (ps_ret pe_bl)) pss_nil) (pss_cons (ps_if (pt_cmpR (op_ne) (LamX.pe_lamcall (T := Ts K) (TT := TKind K) (k := 3) (by rfl) TX.g_Lkind kk_Lkind lk_Lkind hc_Lkind bb_Lkind sc_Lkind rfl (Or.inl rfl) (gv_Lkind (X := _) TX) (TB _ (List.mem_cons_of_mem _ (List.mem_cons_self ..))) rfl (List.mem_map.mpr ⟨_, (List.mem_cons_of_mem _ (List.mem_cons_self ..)), rfl⟩) (hu_nodup TX.ts (List.mem_cons_of_mem _ (List.mem_cons_self ..))) (hr.mono (by decide)) (LamX.lamS_by (show LamX.lamSB (defScope s_law) _ = true from by decide +kernel)) rfl (fun _ _ _ _ _ => rfl) (fun A outer s H E f c' hr => by exact (pe_make TX.k_Table G_t_init (hr.mono (by decide)) (by rfl) TX.g_Table b_t_init .nil pLam (pa_cons (pv 3) (pa_cons (pe_ix (k_ixl (K := K) rfl) (pv 5) pe_int (fun _ _ => rfl)) pa_nil))))) pe_str (nomark _)) (pss_one (ps_ret pe_bl)) pss_nil) (pss_cons (ps_set (i := 6) sc_law.nd rfl (Or.inr rfl) (pe_make TX.k_Table G_t_init (hr.mono (by decide)) (by rfl) TX.g_Table b_t_init .nil pE (pa_cons (pv 3) (pa_cons (pv 4) pa_nil)))) (pss_cons (ps_set (i := 7) sc_law.nd rfl (Or.inr rfl) (pe_call G_Lfar (hr.mono (by decide)) (by rfl) TX.g_Lfar k_Lfar b_Lfar .nil pE (pa_cons (pv 1) (pa_cons (pe_op op_sub (pv 3) pe_int) pa_nil)))) (pss_cons (ps_set (i := 8) sc_law.nd rfl (Or.inr rfl) (pe_call G_Lfar (hr.mono (by decide)) (by rfl) TX.g_Lfar k_Lfar b_Lfar .nil pE (pa_cons (pv 1) (pa_cons (pe_op op_sub (pv 4) pe_int) pa_nil)))) (pss_cons (ps_asg (pe_call G_Lworks (hr.mono (by decide)) (by rfl) TX.g_Lworks k_Lworks b_Lworks .nil pE (pa_cons (pv 6) (pa_cons (pv 7) (pa_cons (pv 8) pa_nil)))) (pg_tup (by rfl) (pgs_cons (pg_name (i := 9) sc_law.nd rfl (Or.inl rfl)) (pgs_cons (pg_name (i := 10) sc_law.nd rfl (Or.inl rfl)) pgs_nil)))) (pss_cons (ps_if (pt_cmpR (k_neD (K := K) rfl hr.units) (pe_lc (own := [("_law_work", 11)]) (g := gName 11) rfl sc_law.nd (k_listI (K := K) rfl (pv 9)) (blkOk_by (N := ["_law_script", "_law_state", "_law_turn", "_law_agents", "_law_locks", "_law_odd", "_law_table_here", "_law_far_here", "_law_beyond", "_law_some", "_law_other", "_law_work"]) (sc := defScope s_law) (by decide +kernel)) (fun _ _ _ _ _ => pg_name (i := 11) sc_law.nd rfl (Or.inl rfl)) (fun _ _ _ _ _ => by exact (pts_one (pt_cmpR (op_ne) (pe_kindval (TT := TKind K) (tb := tBad K .noAgent badA) (ds := dsA) (q0 := q0W) (sc := defScope s_Lworks) (k := 5) (by rfl) TX.g_Lkind kk_Lkind lk_Lkind hc_Lkind bb_Lkind sc_Lkind rfl (Or.inl rfl) (gv_Lkind (X := _) TX) (hr.mono (by decide)) (pv 11) (goodA TX rfl rfl rfl rfl rfl)) pe_str (nomark _)))) (fun _ _ _ _ _ => by exact (pv 11))) (pe_lst pa_nil) (nomark _)) (pss_one (ps_ret pe_bl)) pss_nil) (pss_cons (ps_if (pt_cmpR (k_neD (K := K) rfl hr.units) (pe_lc (own := [("_law_work", 11)]) (g := gName 11) rfl sc_law.nd (k_listI (K := K) rfl (pv 10)) (blkOk_by (N := ["_law_script", "_law_state", "_law_turn", "_law_agents", "_law_locks", "_law_odd", "_law_table_here", "_law_far_here", "_law_beyond", "_law_some", "_law_other", "_law_work"]) (sc := defScope s_law) (by decide +kernel)) (fun _ _ _ _ _ => pg_name (i := 11) sc_law.nd rfl (Or.inl rfl)) (fun _ _ _ _ _ => by exact (pts_one (pt_cmpR (op_ne) (pe_kindval (TT := TKind K) (tb := tBad K .noLock badL) (ds := dsL) (q0 := q0W) (sc := defScope s_Lworks) (k := 5) (by rfl) TX.g_Lkind kk_Lkind lk_Lkind hc_Lkind bb_Lkind sc_Lkind rfl (Or.inl rfl) (gv_Lkind (X := _) TX) (hr.mono (by decide)) (pv 11) (goodL TX rfl rfl rfl rfl rfl)) pe_str (nomark _)))) (fun _ _ _ _ _ => by exact (pv 11))) (pe_lst pa_nil) (nomark _)) (pss_one (ps_ret pe_bl)) pss_nil) (pss_cons (ps_if (pt_cmpR (k_neD (K := K) rfl hr.units) (pe_lst (pa_cons (LamX.pe_lamcall (T := Ts K) (TT := TKind K) (k := 3) (by rfl) TX.g_Lkind kk_Lkind lk_Lkind hc_Lkind bb_Lkind sc_Lkind rfl (Or.inl rfl) (gv_Lkind (X := _) TX) (TB _ (List.mem_cons_of_mem _ (List.mem_cons_self ..))) rfl (List.mem_map.mpr ⟨_, (List.mem_cons_of_mem _ (List.mem_cons_self ..)), rfl⟩) (hu_nodup TX.ts (List.mem_cons_of_mem _ (List.mem_cons_self ..))) (hr.mono (by decide)) (LamX.lamS_by (show LamX.lamSB (defScope s_law) _ = true from by decide +kernel)) rfl (fun _ _ _ _ _ => rfl) (fun A outer s H E f c' hr => by exact (pe_meth (pv 6) TX.c_Table TX.m_t_ask G_t_ask (hr.mono (by decide)) b_t_ask .nil pLam (pa_cons (pv 7) (pa_cons (pv 8) pa_nil))))) pa_nil)) (pe_lst (pa_cons pe_str pa_nil)) (nomark _)) (pss_one (ps_ret pe_bl)) pss_nil) (pss_cons (ps_if (PW.pt (pw_or (pt_not (pt_val (pe_call G_Lis (hr.mono (by decide)) (by rfl) TX.g_Lis k_Lis b_Lis .nil pE (pa_cons (pv 6) (pa_cons (pe_call G_Ltable (hr.mono (by decide)) (by rfl) TX.g_Ltable k_Ltable b_Ltable .nil pE (pa_cons (pv 3) (pa_cons (pv 4) pa_nil))) pa_nil))))) (pw_or1 (pt_not (pt_val (pe_call G_Lsame (hr.mono (by decide)) (by rfl) TX.g_Lsame k_Lsame b_Lsame .nil pE (pa_cons (pe_call G_rings (hr.mono (by decide)) (by rfl) TX.g_rings k_rings b_rings .nil pE (pa_cons (pv 6) pa_nil)) (pa_cons (pe_lst pa_nil) pa_nil)))))))) (pss_one (ps_ret pe_bl)) pss_nil) (pss_one (ps_if (pt_not (pt_val (pe_call G_Lsame (hr.mono (by decide)) (by rfl) TX.g_Lsame k_Lsame b_Lsame .nil pE (pa_cons (pe_lst (pa_cons (pe_call G_chain (hr.mono (by decide)) (by rfl) TX.g_chain k_chain b_chain .nil pE (pa_cons (pv 6) (pa_cons pe_int pa_nil))) (pa_cons (pe_call G_least (hr.mono (by decide)) (by rfl) TX.g_least k_least b_least .nil pE (pa_cons (pv 6) pa_nil)) pa_nil))) (pa_cons (pe_lst (pa_cons (pe_lst (pa_cons pe_int pa_nil)) (pa_cons (pe_tup (pa_cons pe_int (pa_cons (pe_lst pa_nil) pa_nil))) pa_nil))) pa_nil))))) (pss_one (ps_ret pe_bl)) pss_nil)))))))))))))))) (pss_one (ps_ret pe_bl)))), ?_⟩
    refine r_st (σ' := [some x, none, none, none, none, none, none, none, none, none, none, none]) rfl ?_
    try dsimp only [cxOf]
    obtain ⟨sc, ns, rfl, hs, hl, hTs, hq⟩ := h
    walk_at "sx"
    refine ⟨sc, ns, rfl, hs, hl, fun st H1 hst hS1 f1 => ?_⟩
    have hF : ScF K sc ns (Only1 st) := scF_of hs (fun b hb => by rw [show b = st from hb]; exact hst)
    have hTs1 := tabs_fr hTs f1 old_no
    walk_at "sx"
    refine r_forRx ?_
    walk_at "sx"
    refine r_rngOn (n := 6) (by decide) (fun i σ' H' => ∃ x2 x3 x4 x5 x6 x7 x8 x9 x10 x11 : Option V, σ' = [some (.ref sc), some (.ref st), x2, x3, x4, x5, x6, x7, x8, x9, x10, x11] ∧ StAt K H' st sc ns ∧ LamX.Tabs (Ts K) H') ⟨_, _, _, _, _, _, _, _, _, _, rfl, hS1, hTs1⟩ (fun i σ' H' hi p => ?_) (fun σ' H' p => ?_)
    rotate_left
    · walk_at "sx"
      exact hq _
    obtain ⟨x2, x3, x4, x5, x6, x7, x8, x9, x10, x11, rfl, hS0, hT0⟩ := p
    clear hS1 hTs1 f1 hTs hs hst
    have tabS : ∀ {G G' : Hp}, StAt K G st sc ns → LamX.Tabs (Ts K) G → Fr (Only1 st) G G' → LamX.Tabs (Ts K) G' := fun h t f => by
      obtain ⟨xs, e⟩ := h.lst
      exact tabs_fr t f (old_one e)
    generalize H' = G0 at *
    walk_at "sx"
    refine ⟨st, sc, ns, 8, rfl, rfl, hS0, by decide, by decide, hF, fun r1 G1 hr1 hS1 f1 => ?_⟩
    have hT1 := tabS hS0 hT0 f1
    walk_at "sx"
    refine ⟨st, sc, ns, 12, rfl, rfl, hS1, by decide, by decide, hF, fun r2 G2 hr2 hS2 f2 => ?_⟩
    have hT2 := tabS hS1 hT1 f2
    have en : (1 + (r1 : Int)) = ((1 + r1 : Nat) : Int) := by omega
    have em : (1 + (r2 : Int)) = ((1 + r2 : Nat) : Int) := by omega
    walk_at "sx"
    rw [en, em]
    obtain ⟨n, hn⟩ : ∃ n, n = 1 + r1 := ⟨_, rfl⟩
    obtain ⟨m, hm⟩ : ∃ m, m = 1 + r2 := ⟨_, rfl⟩
    rw [← hn, ← hm]
    have hn1 : 1 ≤ n := by omega
    have hn8 : n ≤ 8 := by omega
    have hm1 : 1 ≤ m := by omega
    have hm12 : m ≤ 12 := by omega
    clear hn hm en em hr1 hr2 f1 f2 hS0 hT0 hS1 hT1
    walk_at "sx"
    -- odd counts
    refine ⟨st, sc, ns, 8, rfl, rfl, hS2, hF, fun o1 G3 ho1 hS3 f3 => ?_⟩
    have hT3 := tabS hS2 hT2 f3
    walk_at "sx"
    refine r_newL (by show 2 ≤ 2000; decide) (fun p4 G4 hp4 e4 f4 => ?_)
    have hS4 := hS3.fr0 f4
    have hT4 := tabs_fr hT3 f4 old_no
    walk_at "sx"
    refine ⟨st, sc, ns, 2, rfl, rfl, hS4, by decide, by decide, hF, fun r5 G5 hr5 hS5 f5 => ?_⟩
    have hT5 := tabS hS4 hT4 f5
    have e5 := f5.old _ _ e4 (fun z => hS3.some (z ▸ hp4))
    obtain ⟨v1, ev1, hv1⟩ : ∃ v1 : Int, ([V.int 0, V.int o1] : List V)[r5]? = some (.int v1) ∧ (v1 < 1 ∨ 8 < v1) := by
      rcases (by omega : r5 = 0 ∨ r5 = 1) with e | e
      · subst e; exact ⟨0, rfl, by omega⟩
      · subst e; exact ⟨o1, rfl, by omega⟩
    refine r_ixl e5 ev1 ?_
    clear ev1 e4 e5 hr5 ho1 hp4 f3 f4 f5 hS2 hT2 hS3 hT3 hS4 hT4
    walk_at "sx"
    refine ⟨st, sc, ns, 12, rfl, rfl, hS5, hF, fun o2 G6 ho2 hS6 f6 => ?_⟩
    have hT6 := tabS hS5 hT5 f6
    walk_at "sx"
    refine r_newL (by show 2 ≤ 2000; decide) (fun p7 G7 hp7 e7 f7 => ?_)
    have hS7 := hS6.fr0 f7
    have hT7 := tabs_fr hT6 f7 old_no
    walk_at "sx"
    refine ⟨st, sc, ns, 2, rfl, rfl, hS7, by decide, by decide, hF, fun r8 G8 hr8 hS8 f8 => ?_⟩
    have hT8 := tabS hS7 hT7 f8
    have e8 := f8.old _ _ e7 (fun z => hS6.some (z ▸ hp7))
    obtain ⟨v2, ev2, hv2⟩ : ∃ v2 : Int, ([V.int 0, V.int o2] : List V)[r8]? = some (.int v2) ∧ (v2 < 1 ∨ 12 < v2) := by
      rcases (by omega : r8 = 0 ∨ r8 = 1) with e | e
      · subst e; exact ⟨0, rfl, by omega⟩
      · subst e; exact ⟨o2, rfl, by omega⟩
    refine r_ixl e8 ev2 ?_
    clear ev2 e7 e8 hr8 ho2 hp7 f6 f7 f8 hS5 hT5 hS6 hT6 hS7 hT7
    walk_at "sx"
    refine r_newL (by show 2 ≤ 2000; decide) (fun od G9 hod e9 f9 => ?_)
    have hS9 := hS8.fr0 f9
    have hT9 := tabs_fr hT8 f9 old_no
    clear hS8 hT8 f9 hod
    walk_at "sx"
    -- two tables that can't be
    refine ⟨hT9, fun G10 x10' hT10 => ?_⟩
    have hS10 := hS9.ext x10'
    have e10 := lst_ext x10' e9
    clear x10' hS9 hT9 e9
    unfold TKind
    walk_at "sx"
    refine r_ixl (i := 0) e10 rfl ?_
    walk_at "sx"
    refine r_makeOn (fun y dy G11 hy e11 f11 => ?_)
    walk_at "sx"
    refine ⟨y, dy, v1, (m : Int), rfl, rfl, rfl, e11, fun _ => ⟨rfl, .noTable, rfl, fun G12 f12 => ?_⟩, fun z => absurd z.1 (by omega)⟩
    have hS12 := (hS10.fr0 f11).fr0 f12
    have hT12 := tabs_fr hT10 (f11.trans f12) old_no
    have e12 := (f11.trans f12).lst e10
    clear e10 e11 hS10 hT10 f11 f12 hy
    walk_at "sx"
    refine r_ne rfl ?_
    walk_at "sx"
    refine r_decN (fun z => absurd rfl z) (fun _ => ?_)
    walk_at "sx"
    refine ⟨hT12, fun G13 x13 hT13 => ?_⟩
    have hS13 := hS12.ext x13
    have e13 := lst_ext x13 e12
    clear x13 hS12 hT12 e12
    walk_at "sx"
    refine r_ixl (i := 1) e13 rfl ?_
    walk_at "sx"
    refine r_makeOn (fun y dy G14 hy e14 f14 => ?_)
    walk_at "sx"
    refine ⟨y, dy, (n : Int), v2, rfl, rfl, rfl, e14, fun _ => ⟨rfl, .noTable, rfl, fun G15 f15 => ?_⟩, fun z => absurd z.2 (by omega)⟩
    have hS15 := (hS13.fr0 f14).fr0 f15
    have hT15 := tabs_fr hT13 (f14.trans f15) old_no
    clear e13 e14 hS13 hT13 f14 f15 hy
    walk_at "sx"
    refine r_ne rfl ?_
    walk_at "sx"
    refine r_decN (fun z => absurd rfl z) (fun _ => ?_)
    walk_at "sx"
    -- the table
    refine r_makeOn (fun x dx G16 hx e16 f16 => ?_)
    walk_at "sx"
    refine ⟨x, dx, (n : Int), (m : Int), rfl, rfl, rfl, e16, fun z => absurd ⟨⟨by omega, by omega⟩, by omega, by omega⟩ z, fun _ A G17 eA hA f17 hnew => ⟨rfl, ?_⟩⟩
    subst eA
    rw [Int.toNat_natCast, Int.toNat_natCast] at hA
    have f1517 : Fr No G15 G17 := f16.mutO f17 hx
    have nA : ∀ b, A.has b → G15 b = none := fun b hb => by
      by_cases z : b = A.p
      · rw [z]; exact hx
      · exact f16.fresh (hnew b hb z)
    have nst : ¬ A.has st := fun z => hS15.some (nA st z)
    have hS17 := hS15.fr0 f1517
    have hT17 := tabs_fr hT15 f1517 old_no
    have hW : (Tb.new n m).Wf := Tb.Wf.new hA.sz
    have hn : (Tb.new n m).n = n := Tb.new_n
    have hm : (Tb.new n m).m = m := Tb.new_m
    clear hnew f16 f17 e16 f1517 hS15 hT15 nA hx
    walk_at "sx"
    refine ⟨st, sc, ns, (n : Int) - 1, rfl, rfl, hS17, hF, fun fa G18 hfa hS18 f18 => ?_⟩
    have hA18 := hA.fr f18 (fun b hb z => nst (z ▸ hb))
    have hT18 := tabS hS17 hT17 f18
    walk_at "sx"
    refine ⟨st, sc, ns, (m : Int) - 1, rfl, rfl, hS18, hF, fun fb G19 hfb hS19 f19 => ?_⟩
    have hA19 := hA18.fr f19 (fun b hb z => nst (z ▸ hb))
    have hT19 := tabS hS18 hT18 f19
    clear hA hA18 hS17 hS18 hT17 hT18 f18 f19
    have nA_ : ¬ (Tb.new n m).isA fa := fun z => by
      have h1 := z.1
      have h2 := z.2
      rw [hn] at h2
      omega
    have nL_ : ¬ (Tb.new n m).isL fb := fun z => by
      have h1 := z.1
      have h2 := z.2
      rw [hm] at h2
      omega
    have iA0 : (Tb.new n m).isA 0 := ⟨by omega, by rw [hn]; omega⟩
    walk_at "sx"
    refine ⟨A, Tb.new n m, fa, fb, rfl, rfl, rfl, hA19, hT19, fun p ps po fs gs k G20 ep eps epo LA LL C3 hT20 x20 thr20 => ?_⟩
    have hS20 := hS19.ext x20
    have hA20 := hA19.ext x20
    clear hA19 hS19 hT19 x20 thr20 hfa hfb hv1 hv2
    walk_at "sx"
    refine ⟨p, _, rfl, SqT.of ep, rfl, ?_⟩
    refine ⟨_, _, rfl, ?_⟩
    refine ⟨_, _, rfl, ?_⟩
    refine ⟨rfl, ?_⟩
    walk_at "sx"
    refine r_lcL (a := ps) (xs := fs.map V.ref) (fun _ => false) (fun _ => .none) (by rw [List.length_map, LA.1]; decide) (fun Q q => by walk_at "sx"; exact q) eps (fun _ => rfl) (fun i x G hx f Q q => ?_) (fun i x G hx hf => absurd hf Bool.false_ne_true) (fun p21 G21 hp21 lp21 fp21 => ?_)
    · rw [List.getElem?_map] at hx
      cases ei : fs[i]? with
      | none => rw [ei] at hx; cases hx
      | some fx =>
        rw [ei] at hx
        cases hx
        have hil : i < dsA.length := by
          rw [← LA.1]
          exact (List.getElem?_eq_some_iff.mp ei).1
        have hd : dsA[i]? = some dsA[i] := List.getElem?_eq_getElem hil
        walk_at "sx"
        refine r_kindval (w := .noAgent) (A := A) (T := Tb.new n m) (a := fa) (l := fb) (n := k) (fun Q q => by walk_at "sx"; exact q) (List.mem_of_getElem? hd) ((LA.2 i _ _ ei hd).kept (ext_frK f)) (C3.kept (ext_frK f)) (hA20.fr0 f) hW nA_ (fun G2 f2 => ?_)
        walk_at "sx"
        refine r_ne rfl ?_
        rw [show (!decide (V.str Wd.noAgent.str = V.str "NoAgent")) = false from by decide +kernel]
        walk_at "sx"
        exact q G2 f2
    rw [turns_no] at lp21
    walk_at "sx"
    refine r_newL (by show 0 ≤ 2000; decide) (fun p22 G22 hp22 ep22 fp22 => ?_)
    walk_at "sx"
    refine r_neNil (lp21.fr fp22 id).dp .nil ep22 ?_
    walk_at "sx"
    refine r_decN (fun z => absurd z (by decide)) (fun _ => ?_)
    have f2 := fp21.trans fp22
    have epo2 := f2.lst epo
    have LL2 := LL.kept (ext_frK f2)
    have C32 := C3.kept (ext_frK f2)
    have hA22 := hA20.fr0 f2
    have hS22 := hS20.fr0 f2
    have hT22 := tabs_fr hT20 f2 old_no
    clear f2 fp21 fp22 lp21 ep22 hp21 hp22 LA LL C3 hA20 hS20 hT20 eps epo ep
    walk_at "sx"
    refine r_lcL (a := po) (xs := gs.map V.ref) (fun _ => false) (fun _ => .none) (by rw [List.length_map, LL2.1]; decide) (fun Q q => by walk_at "sx"; exact q) epo2 (fun _ => rfl) (fun i x G hx f Q q => ?_) (fun i x G hx hf => absurd hf Bool.false_ne_true) (fun p23 G23 hp23 lp23 fp23 => ?_)
    · rw [List.getElem?_map] at hx
      cases ei : gs[i]? with
      | none => rw [ei] at hx; cases hx
      | some fx =>
        rw [ei] at hx
        cases hx
        have hil : i < dsL.length := by
          rw [← LL2.1]
          exact (List.getElem?_eq_some_iff.mp ei).1
        have hd : dsL[i]? = some dsL[i] := List.getElem?_eq_getElem hil
        walk_at "sx"
        refine r_kindval (w := .noLock) (A := A) (T := Tb.new n m) (a := fa) (l := fb) (n := k) (fun Q q => by walk_at "sx"; exact q) (List.mem_of_getElem? hd) ((LL2.2 i _ _ ei hd).kept (ext_frK f)) (C32.kept (ext_frK f)) (hA22.fr0 f) hW ⟨iA0, Tb.new_wa, nL_⟩ (fun G2 f2 => ?_)
        walk_at "sx"
        refine r_ne rfl ?_
        rw [show (!decide (V.str Wd.noLock.str = V.str "NoLock")) = false from by decide +kernel]
        walk_at "sx"
        exact q G2 f2
    rw [turns_no] at lp23
    walk_at "sx"
    refine r_newL (by show 0 ≤ 2000; decide) (fun p24 G24 hp24 ep24 fp24 => ?_)
    walk_at "sx"
    refine r_neNil (lp23.fr fp24 id).dp .nil ep24 ?_
    walk_at "sx"
    refine r_decN (fun z => absurd z (by decide)) (fun _ => ?_)
    have f4 := fp23.trans fp24
    have hA24 := hA22.fr0 f4
    have hS24 := hS22.fr0 f4
    have hT24 := tabs_fr hT22 f4 old_no
    clear f4 fp23 fp24 lp23 ep24 hp23 hp24 LL2 C32 hA22 hS22 hT22 epo2
    walk_at "sx"
    refine ⟨hT24, fun G25 x25 hT25 => ?_⟩
    have hS25 := hS24.ext x25
    have hA25 := hA24.ext x25
    clear x25 hS24 hT24 hA24
    walk_at "sx"
    refine r_tmeth hA25 (by decide +kernel) ?_
    walk_at "sx"
    have hask : (Tb.new n m).askR fa fb = (.error .noAgent, Tb.new n m) := by
      unfold Tb.askR Tb.fault
      simp [nA_]
    refine ⟨A, _, fa, fb, rfl, rfl, rfl, hA25, hW, fun w' T' e => ?_, fun b T' e => ?_⟩
    rotate_left
    · rw [hask] at e
      cases e
    rw [hask] at e
    cases e
    refine ⟨rfl, .noAgent, rfl, fun G26 f26 => ?_⟩
    have hA26 := hA25.fr0 f26
    have hS26 := hS25.fr0 f26
    have hT26 := tabs_fr hT25 f26 old_no
    clear hA25 hS25 hT25 f26
    walk_at "sx"
    refine r_newL (by show 1 ≤ 2000; decide) (fun p27 G27 hp27 e27 f27 => ?_)
    walk_at "sx"
    refine r_newL (by show 1 ≤ 2000; decide) (fun p28 G28 hp28 e28 f28 => ?_)
    walk_at "sx"
    refine r_neSame01 (ds := [.str "NoAgent"]) ⟨_, f28.lst e27, .cons (.str _) .nil⟩ ⟨_, e28, .cons (.str _) .nil⟩ (.cons word_cmp .nil) ?_
    have hA28 := (hA26.fr0 f27).fr0 f28
    have hS28 := (hS26.fr0 f27).fr0 f28
    have hT28 := tabs_fr hT26 (f27.trans f28) old_no
    clear hA26 hS26 hT26 f27 f28 hp27 hp28 e27 e28
    walk_at "sx"
    -- the table again
    refine ⟨n, m, rfl, rfl, hA28.sz, fun b => A.has b ∨ b = st, fun b hb => ?_, fun D G29 hD f29 hDn hbad => ?_⟩
    · rcases hb with hb | hb
      · obtain ⟨o, e, _⟩ := hA28.old hb
        rw [e]
        simp
      · rw [hb]
        exact hS28.some
    have hA29 := hA28.fr0 f29
    have hS29 := hS28.fr0 f29
    have hT29 := tabs_fr hT28 f29 old_no
    clear hA28 hS28 hT28 f29
    walk_at "sx"
    refine ⟨A, D, _, rfl, rfl, hA29, hD, hW, fun G30 f30 => ?_⟩
    have hA30 := hA29.fr0 f30
    have hS30 := hS29.fr0 f30
    have hT30 := tabs_fr hT29 f30 old_no
    clear hA29 hS29 hT29 f30 hD hDn hbad
    walk_at "sx"
    refine ⟨A, _, rfl, hA30, hW, fun p31 G31 hp31 l31 f31 => ?_⟩
    rw [Tb.new_rings] at l31
    have e31 := td_emp l31
    walk_at "sx"
    refine r_newL (by show 0 ≤ 2000; decide) (fun p32 G32 hp32 e32 f32 => ?_)
    walk_at "sx"
    refine ⟨.list [], .lst (f32.lst e31) (by decide) .nil, .lst e32 (by decide) .nil, by simp [PyData.depth, PyData.depthAll], fun G33 f33 => ?_⟩
    have f3033 := f31.trans (f32.trans f33)
    have hA33 := hA30.fr0 f3033
    have hS33 := hS30.fr0 f3033
    have hT33 := tabs_fr hT30 f3033 old_no
    clear hA30 hS30 hT30 f3033 f31 f32 f33 e31 e32 l31 hp31 hp32
    walk_at "sx"
    refine ⟨A, _, 0, rfl, rfl, hA33, hW, fun _ p34 G34 hp34 e34 f34 => ?_, fun z => absurd iA0 z⟩
    rw [show (0 : Int).toNat = 0 from rfl, Tb.new_chain] at e34
    have hA34 := hA33.fr0 f34
    have hS34 := hS33.fr0 f34
    have hT34 := tabs_fr hT33 f34 old_no
    have d34 : Dd G34 (.ref p34) (.list [.int 0]) := .lst e34 (by decide) (.cons (.int 0) .nil)
    clear hA33 hS33 hT33 f34 hp34 e34
    walk_at "sx"
    refine ⟨A, _, rfl, hA34, hW, fun p35 q35 zs G35 e35 hq35 eq35 hperm _ f35 => ?_⟩
    rw [Tb.new_lights] at e35 hperm
    have hz : zs = [] := List.perm_nil.mp hperm
    subst hz
    have hS35 := hS34.fr0 f35
    have hT35 := tabs_fr hT34 f35 old_no
    have d35 : Dd G35 (.ref p35) (.tuple [.int 0, .list []]) := .tup e35 (by simp) (.cons (.int 0) (.cons (.lst eq35 (by decide) .nil) .nil))
    have d34b := d34.fr f35
    clear hA34 hS34 hT34 f35 hq35 e35 eq35 hperm d34
    walk_at "sx"
    refine r_newL (by show 2 ≤ 2000; decide) (fun p36 G36 hp36 e36 f36 => ?_)
    have d36 : Dd G36 (.ref p36) (.list [.list [.int 0], .tuple [.int 0, .list []]]) := .lst e36 (by simp) (.cons (d34b.fr f36) (.cons (d35.fr f36) .nil))
    have hS36 := hS35.fr0 f36
    have hT36 := tabs_fr hT35 f36 old_no
    clear hS35 hT35 f36 hp36 e36 d34b d35
    walk_at "sx"
    refine r_newL (by show 1 ≤ 2000; decide) (fun p37 G37 hp37 e37 f37 => ?_)
    have d37 : Dd G37 (.ref p37) (.list [.int 0]) := .lst e37 (by decide) (.cons (.int 0) .nil)
    walk_at "sx"
    refine r_newL (by show 0 ≤ 2000; decide) (fun p38 G38 hp38 e38 f38 => ?_)
    have d38 : Dd G38 (.ref p38) (.list []) := .lst e38 (by decide) .nil
    walk_at "sx"
    refine r_newT (by show 2 ≤ 2000; decide) (fun p39 G39 hp39 e39 f39 => ?_)
    have d39 : Dd G39 (.ref p39) (.tuple [.int 0, .list []]) := .tup e39 (by simp) (.cons (.int 0) (.cons (d38.fr f39) .nil))
    walk_at "sx"
    refine r_newL (by show 2 ≤ 2000; decide) (fun p40 G40 hp40 e40 f40 => ?_)
    have d40 : Dd G40 (.ref p40) (.list [.list [.int 0], .tuple [.int 0, .list []]]) := .lst e40 (by simp) (.cons (d37.fr (f38.trans (f39.trans f40))) (.cons (d39.fr f40) .nil))
    walk_at "sx"
    refine ⟨_, d36.fr (f37.trans (f38.trans (f39.trans f40))), d40, by simp [PyData.depth, PyData.depthAll], fun G41 f41 => ?_⟩
    have f3641 := f37.trans (f38.trans (f39.trans (f40.trans f41)))
    have hS41 := hS36.fr0 f3641
    have hT41 := tabs_fr hT36 f3641 old_no
    walk_at "sx"
    exact ⟨_, _, _, _, _, _, _, _, _, _, rfl, hS41, hT41⟩
end
theorem at_law {w : World} {mg : Str → Option Value} {h : Heap} {fx : Addr} (G : h.Ns mainGlobals mg) (hmg : mg "law" = some (.ref fx)) (Y : ∃ K : PySem.W.Frag, K.In h ∧ He.SaysX fa fn [] tf ex w h K) :
    ∃ K : PySem.W.Frag, K.In h ∧ LamX.LawAtS PySem.Challenge.rw_asklock_k01_tables_and_what_is_none w K (L2.CX (PySem.Challenge.rw_asklock_k01_tables_and_what_is_none).prog w) 11 63 "_law_script" mg fx h := by
  obtain ⟨K, X, c⟩ := Y
  have TX : Txt K mg := txt_of X G c.t.d c.more
  have e := hmg.symm.trans TX.g_law
  cases e
  obtain ⟨fd, F⟩ := TX.f_law
  have bb := FunD.bindsA (ps := ["_law_script"]) F fun _ _ _ _ _ _ us hl => match us, hl with | [_], _ => rfl
  refine ⟨K, X, fd, tf.map (fun d => He.cT K d), sp_law (Ts K) K, fun p hp => ?_, fun p hp => ?_, fun p hp => ?_, fun s u => bb s [u] rfl, ?_, ?_⟩
  · obtain ⟨d, hd, rfl⟩ := List.mem_map.mp hp
    exact c.empty d hd
  · obtain ⟨d, hd, rfl⟩ := List.mem_map.mp hp
    exact c.out d hd
  · obtain ⟨d, hd, rfl⟩ := List.mem_map.mp hp
    exact PySem.W.codeHd_of_K X (c.hd d hd)
  · intro H a ns hl _ hT hS
    refine ⟨.ref a, rfl, a, ns, rfl, hS, hl, fun p hp => ?_, fun H' => rfl⟩
    obtain ⟨d, hd, e⟩ := List.mem_map.mp hp
    have hz := hT _ (List.mem_map.mpr ⟨d, hd, rfl⟩)
    rw [← e]
    exact LamX.TabS.nil hz
  · intro base Kb Gb TB
    exact ok_law (P := (PySem.Challenge.rw_asklock_k01_tables_and_what_is_none).prog) (w := w) (base := base) TX (fun d hd => TB _ (List.mem_map.mpr ⟨d, hd, rfl⟩)) F
end AL
open PySem PySem.W PySem.Calls PyProof.Rows
theorem PySem.Challenge.cw_asklock_k01_tables_and_what_is_none_holds : PySem.Challenge.rw_asklock_k01_tables_and_what_is_none.Holds := by
  w_on; o_law
  refine HandSHeadRun.head_any (r := OpenLaw.row PySem.Challenge.rw_asklock_k01_tables_and_what_is_none) (q := view (OpenLaw.row PySem.Challenge.rw_asklock_k01_tables_and_what_is_none).prog [41]) (H := AL.hk) (ob := AL.ob) (M := 12000) (loose := AL.loose) (d := HandSHeadRun.topDef (OpenLaw.row PySem.Challenge.rw_asklock_k01_tables_and_what_is_none).prog 41) (kwd := []) AL.ob_eq
    (by kernel_rfl) (fun s => by kernel_rfl) AL.run (by kernel_rfl) (by kernel_rfl) (by kernel_rfl) (by rfl) (by first | assumption | decide +kernel) (by decide +kernel) ⟨rfl, rfl, rfl, rfl, rfl, by decide +kernel⟩ ?hw ?hc
  case hw => w_witness2
  case hc =>
    refine LamX.walk_ofTsE (l := PySem.Challenge.rw_asklock_k01_tables_and_what_is_none) (n := 63) (k := 11) (x := "_law_script") (CX := fun w => L2.CX (PySem.Challenge.rw_asklock_k01_tables_and_what_is_none).prog w) rfl (by decide) (by kernel_rfl) ⟨rfl, by decide, by decide⟩ ?F (fun w H s e s' z => ?_)
    case F =>
      intro w mg fx h Y G hmg0
      have hmg : mg ("law" : PySem.Str) = some (.ref fx) := by
        have e : (HandSHeadRun.topDef (OpenLaw.row PySem.Challenge.rw_asklock_k01_tables_and_what_is_none).prog 41).name = ("law" : PySem.Str) := by kernel_rfl
        rw [← e]
        exact hmg0
      exact AL.at_law G hmg Y
    · obtain ⟨_, _, _, _, _, _, _, _, _, _, _, _, z⟩ := z
      exact z
