import PyProof.Rows.All
import Wide.All
import OpenK.AllK
import Wide.FinOn
import HandS.ForMost
import HandS.Exc
import HandS.ExcOwn
import HandS.WordsExc
import HandS.TryOnly
import HandS.TryMany
import HandS.Style
import HandS.Wide
import HandS.IsInst
import HandS.Property
import HandS.HeadHook1
import KE.KStateDown
import Lean
import HandS.Head0
import HandS.Head1
import HandS.Head2
import HandS.HeadEnd
import HandS.EndBits
import HandS.ExcIs
import HandS.SlotsOwn
import PyProof.InstNe
import PySem.Challenge.RW_twocolourflips_k05_flips_made
set_option Elab.async false
set_option linter.all false
set_option maxRecDepth 100000
set_option maxHeartbeats 4000000
namespace Vc
open PySem PySem.Spec PyProof.Rows L2

/-! ### value-level meanings: the weakest that a rule may ask -/
section
variable (X : Cx)
/-- a one-place operation -/
def O1 (f : Value → Sem Value) (x : V) : TE := fun σ H Q =>
  ∀ (pins : List (Addr × Obj)) (s : Shared) (v : Value), Inv X pins σ H s → RelV x v → wpAny (model X.prog X.w) X.A (f v) (EP X pins σ Q) X.xe s
/-- a two-place operation -/
def O2 (f : Value → Value → Sem Value) (x y : V) : TE := fun σ H Q =>
  ∀ (pins : List (Addr × Obj)) (s : Shared) (v u : Value), Inv X pins σ H s → RelV x v → RelV y u → wpAny (model X.prog X.w) X.A (f v u) (EP X pins σ Q) X.xe s
/-- a value's truth -/
def Tr (x : V) : TT := fun σ H Q =>
  ∀ (pins : List (Addr × Obj)) (s : Shared) (v : Value), Inv X pins σ H s → RelV x v → wpAny (model X.prog X.w) X.A (truthy v) (TP X pins σ Q) X.xe s
/-- a call of a value -/
def CV (f : Value) (xs : List V) : TE := fun σ H Q =>
  ∀ (pins : List (Addr × Obj)) (s : Shared) (us : List Value), Inv X pins σ H s → Vals xs us → wpAny (model X.prog X.w) X.A (call f us) (EP X pins σ Q) X.xe s
/-- o[i] = v -/
def SetV (o i x : V) (σ : L2.St) (H : Hp) (Q : Hp → Prop) : Prop :=
  ∀ (pins : List (Addr × Obj)) (s : Shared) (ov iv u : Value), Inv X pins σ H s → RelV o ov → RelV i iv → RelV x u → wpAny (model X.prog X.w) X.A (setItem ov iv u) (fun _ s' => ∃ H', Inv X pins σ H' s' ∧ Q H') X.xe s
/-- o.f = v -/
def SetA (f : Str) (o x : V) (σ : L2.St) (H : Hp) (Q : Hp → Prop) : Prop :=
  ∀ (pins : List (Addr × Obj)) (s : Shared) (ov u : Value), Inv X pins σ H s → RelV o ov → RelV x u → wpAny (model X.prog X.w) X.A (setAttr ov f u) (fun _ s' => ∃ H', Inv X pins σ H' s' ∧ Q H') X.xe s
/-- what is walked, from a value -/
def IterV (x : V) (σ : L2.St) (H : Hp) (R : It → Hp → Prop) : Prop :=
  ∀ (tg : Expr) (pins : List (Addr × Obj)) (s : Shared) (v : Value), Inv X pins σ H s → RelV x v → wpAny (model X.prog X.w) X.A (pyIter v) (PIE X pins σ tg R) X.xe s
end

/-! ### readings -/
def tBin (X : Cx) (f : Value → Value → Sem Value) (ta tb : TE) : TE := fun σ H Q => ta σ H fun x H1 => tb σ H1 fun y H2 => O2 X f x y σ H2 Q
def tUny (X : Cx) (f : Value → Sem Value) (ta : TE) : TE := fun σ H Q => ta σ H fun x H1 => O1 X f x σ H1 Q
def tTru (X : Cx) (ta : TE) : TT := fun σ H Q => ta σ H fun x H1 => Tr X x σ H1 Q
def tBad : TE := fun _ _ _ => False
def tBadT : TT := fun _ _ _ => False
def tAndE (X : Cx) (ta tb : TE) : TE := fun σ H Q => ta σ H fun x H1 => Tr X x σ H1 fun c H2 => if c = true then tb σ H2 Q else Q x H2
def tOrE (X : Cx) (ta tb : TE) : TE := fun σ H Q => ta σ H fun x H1 => Tr X x σ H1 fun c H2 => if c = true then Q x H2 else tb σ H2 Q
def tIfT (t a b : TT) : TT := fun σ H Q => t σ H fun c H1 => if c = true then a σ H1 Q else b σ H1 Q
/-- a op1 b op2 c -/
def tCh (X : Cx) (f g : Value → Value → Sem Value) (ta tb tc : TE) : TE := fun σ H Q => ta σ H fun x H1 => tb σ H1 fun y H2 => O2 X f x y σ H2 fun z H3 => ∃ k, z = .bl k ∧
  (if k = true then tc σ H3 fun w' H4 => O2 X g y w' σ H4 Q else Q (.bl false) H3)
/-- the module's name x as a value -/
def tGlo (X : Cx) (x : Str) : TE := fun _ H Q => (∃ u v, X.mg x = some u ∧ RelV v u ∧ Q v H) ∨ (∃ u v, X.mg x = none ∧ bootBuiltins x = some u ∧ RelV v u ∧ Q v H)
/-- what stands behind the module's name x, called -/
inductive Cal (X : Cx) (x : Str) : Value → Prop where
  | own {f : Addr} (h : X.mg x = some (.ref f)) (k : PySem.W.keepIn X.K (.ref f) = true) : Cal X x (.ref f)
  | blt {id : String} (h : X.mg x = none) (b : bootBuiltins x = some (.builtin id)) : Cal X x (.builtin id)
  | typ {T : String} (h : X.mg x = none) (b : bootBuiltins x = some (.type T)) : Cal X x (.type T)
def tCallG (X : Cx) (x : Str) (ta : TA) : TE := fun σ H Q => ∃ f, Cal X x f ∧ ta σ H fun vs H1 => CV X f vs σ H1 Q
/-- a method of a built-in type, or of an instance of an own class -/
inductive Mth (X : Cx) (m : Str) (x : V) (H : Hp) : Value → Prop where
  | blt {T id : String} (pa : PlainAttrs T) (slot : Slot T m id) (hty : typeOf (.builtin id) = pure (.type "method_descriptor")) (ty : tyV X.K T x H) : Mth X m x H (.builtin id)
  | own {a C dx g : Addr} {fs : List (Str × V)} (e : x = .ref a) (h : H a = some (.ins C dx fs)) (c : Cls X.K C) (k : Meth X.K C m g) (l : fs.lookup m = none) : Mth X m x H (.ref g)
def tMth (X : Cx) (m : Str) (to : TE) (ta : TA) : TE := fun σ H Q => to σ H fun x H1 => ∃ f, Mth X m x H1 f ∧ ta σ H1 fun vs H2 => CV X f (x :: vs) σ H2 Q
def tAtr (X : Cx) (f : Str) (te : TE) : TE := tUny X (fun v => getAttr v f true) te

/-! ### the rules, whatever the values are -/
section
variable {X : Cx} {a b c : Expr} {ta tb tc : TE} {pos : Pos}
theorem pe_bin {op : Operator} (ha : PE X a ta) (hb : PE X b tb) : PE X (.BinOp a op b pos) (tBin X (binaryOp op) ta tb) :=
  ⟨fun pins s σ H Q I h => wpAny_BinOp (binT ha hb I h fun v u s2 x y H2 I2 rx ry q => q pins s2 v u I2 rx ry)⟩
theorem pe_uny {op : UnaryOp} (ha : PE X a ta) : PE X (.UnaryOp op a pos) (tUny X (unaryOp op) ta) :=
  ⟨fun pins s σ H Q I h => UnaryOp_ (thn (ha.run pins s σ H _ I h) fun v s1 ⟨x, H1, I1, r1, q1⟩ => q1 pins s1 v I1 r1)⟩
theorem pe_cmp1 {op : CmpOp} (ha : PE X a ta) (hb : PE X b tb) (hm : behindInMarks op b = false) : PE X (.Compare a [op] [b] pos) (tBin X (compareOp op) ta tb) :=
  ⟨fun pins s σ H Q I h => wpAny_Compare1 (binT ha hb I h fun v u s2 x y H2 I2 rx ry q => q pins s2 v u I2 rx ry) hm⟩
theorem pt_cmp1 {op : CmpOp} (ha : PE X a ta) (hb : PE X b tb) (hm : behindInMarks op b = false) : PT X (.Compare a [op] [b] pos) (tTru X (tBin X (compareOp op) ta tb)) := by
  refine ⟨fun pins s σ H Q I h => wpAny_isTrue_Compare1 (binT ha hb I h fun v u s2 x y H2 I2 rx ry q => ?_) hm⟩
  exact thn (q pins s2 v u I2 rx ry) fun c s3 ⟨z, H3, I3, r3, q3⟩ => q3 pins s3 c I3 r3
theorem pe_andE {rest : List Expr} (ha : PE X a ta) (hb : PE X (.BoolOp .And (b :: rest) pos) tb) : PE X (.BoolOp .And (a :: b :: rest) pos) (tAndE X ta tb) := by
  refine ⟨fun pins s σ H Q I h => BoolOp_and (thn (ha.run pins s σ H _ I h) fun v s1 ⟨x, H1, I1, r1, q1⟩ => ?_)⟩
  refine thn (q1 pins s1 v I1 r1) fun c s2 ⟨H2, I2, q2⟩ => ?_
  cases c with
  | true => exact hb.run pins s2 σ H2 Q I2 q2
  | false => exact ⟨x, H2, I2, r1, q2⟩
theorem pe_orE {rest : List Expr} (ha : PE X a ta) (hb : PE X (.BoolOp .Or (b :: rest) pos) tb) : PE X (.BoolOp .Or (a :: b :: rest) pos) (tOrE X ta tb) := by
  refine ⟨fun pins s σ H Q I h => BoolOp_or (thn (ha.run pins s σ H _ I h) fun v s1 ⟨x, H1, I1, r1, q1⟩ => ?_)⟩
  refine thn (q1 pins s1 v I1 r1) fun c s2 ⟨H2, I2, q2⟩ => ?_
  cases c with
  | false => exact hb.run pins s2 σ H2 Q I2 q2
  | true => exact ⟨x, H2, I2, r1, q2⟩
theorem pt_any (ha : PE X a ta) (he : ∀ whole, isTrue a X.env whole = (do let v ← whole; standAt a.pos; holding [v] (truthy v))) : PT X a (tTru X ta) :=
  ⟨fun pins s σ H Q I h => isTrue_plain (thn (ha.run pins s σ H _ I h) fun v s1 ⟨x, H1, I1, r1, q1⟩ => q1 pins s1 v I1 r1) (he _)⟩
theorem pt_ifE {t1 t2 t3 : TT} (hc : PT X c t1) (ha : PT X a t2) (hb : PT X b t3) : PT X (.IfExp c a b pos) (tIfT t1 t2 t3) := by
  refine ⟨fun pins s σ H Q I h => ?_⟩
  show wpAny _ _ (do if ← isTrue c X.env (eval c X.env) then isTrue a X.env (eval a X.env) else isTrue b X.env (eval b X.env)) _ _ _
  refine wpAny_bind (thn (hc.run pins s σ H _ I h) fun d s1 ⟨H1, I1, q1⟩ => ?_)
  cases d with
  | true => exact ha.run pins s1 σ H1 Q I1 q1
  | false => exact hb.run pins s1 σ H1 Q I1 q1
theorem pe_ch {op op' : CmpOp} (ha : PE X a ta) (hb : PE X b tb) (hc : PE X c tc) (hm : lastMarks [op, op'] [b, c] = false) : PE X (.Compare a [op, op'] [b, c] pos) (tCh X (compareOp op) (compareOp op') ta tb tc) := by
  refine ⟨fun pins s σ H Q I h => Compare_chain (thn (ha.run pins s σ H _ I h) fun v s1 ⟨x, H1, I1, r1, q1⟩ => chain_link (thn (hb.run pins s1 σ H1 _ I1 q1) fun u s2 ⟨y, H2, I2, r2, q2⟩ =>
    thn (q2 pins s2 v u I2 r1 r2) fun d s3 ⟨z, H3, I3, r3, k, e, q3⟩ => ?_)) hm⟩
  subst e
  cases r3
  refine wpAny_truthy_bool ?_
  cases k with
  | false => exact ite_ff ⟨.bl false, H3, I3, rfl, q3⟩
  | true => exact ite_tt (chain_last (thn (hc.run pins s3 σ H3 _ I3 q3) fun w' s4 ⟨z', H4, I4, r4, q4⟩ => q4 pins s4 u w' I4 r2 r4))
/-- a comparison of three, as a test: its answers are truth values -/
theorem pt_ch {op op' : CmpOp} (ha : PE X a ta) (hb : PE X b tb) (hc : PE X c tc) (hm : lastMarks [op, op'] [b, c] = false) :
    PT X (.Compare a [op, op'] [b, c] pos) (tTest (tCh X (compareOp op) (compareOp op') ta tb tc)) := by
  refine ⟨fun pins s σ H Q I h => isTrue_chain (thn (ha.run pins s σ H _ I h) fun v s1 ⟨x, H1, I1, r1, q1⟩ => test_link (thn (hb.run pins s1 σ H1 _ I1 q1) fun u s2 ⟨y, H2, I2, r2, q2⟩ =>
    thn (q2 pins s2 v u I2 r1 r2) fun d s3 ⟨z, H3, I3, r3, k, e, q3⟩ => ?_)) hm⟩
  subst e
  cases r3
  refine wpAny_truthy_bool ?_
  cases k with
  | false =>
    obtain ⟨k', e', q'⟩ := q3
    cases e'
    exact ite_ff ⟨H3, I3, q'⟩
  | true =>
    refine ite_tt (test_last (thn (hc.run pins s3 σ H3 _ I3 q3) fun w' s4 ⟨z', H4, I4, r4, q4⟩ => thn (q4 pins s4 u w' I4 r2 r4) fun d' s5 ⟨z2, H5, I5, r5, k2, e2, q5⟩ => ?_))
    subst e2
    cases r5
    exact wpAny_truthy_bool ⟨H5, I5, q5⟩
theorem pe_glo {x : Str} (hg : Gl X x) (hd : (x == ("__debug__" : Str)) = false) (hn : x ≠ "__name__") : PE X (.Name x pos) (tGlo X x) := by
  refine ⟨fun pins s σ H Q I h => ?_⟩
  rcases h with ⟨u, v, hm, r, q⟩ | ⟨u, v, hm, hb, r, q⟩
  · exact ld_glob I hg hm ⟨v, H, I, r, q⟩ hd
  · exact ld_blt I hg hm hb ⟨v, H, I, r, q⟩ hn hd
theorem pe_atr {f : Str} (he : PE X a ta) (hb : attributeBase a f X.env (eval a X.env) = eval a X.env) : PE X (.Attribute a f pos) (tAtr X f ta) :=
  ⟨fun pins s σ H Q I h => attr_of hb (thn (he.run pins s σ H _ I h) fun u s1 ⟨x, H1, I1, rx, q⟩ => q pins s1 u I1 rx)⟩
/-- x(..), x a name of the module or a built-in -/
theorem pe_callG {x : Str} {p : Pos} {e : Expr} {es : List Expr} {t : TA} (hg : Gl X x) (hdb : (x == ("__debug__" : Str)) = false) (hn : x ≠ "__name__") (ha : PA X (e :: es) t)
    (he : starEach (e :: es) X.env = (false, eval e X.env) :: starEach es X.env) (hpl : (backTo pos (starEach es X.env)).any (·.1) = false) : PE X (.Call (.Name x p) (e :: es) [] pos) (tCallG X x t) := by
  refine ⟨fun pins s σ H Q I h => ?_⟩
  obtain ⟨f, cal, h⟩ := h
  refine wpAny_Call_Name_kw ?_
  cases cal with
  | own hm hk =>
    refine ld_glob I hg hm ?_ hdb
    refine PySem.W.callWith_K (h₀ := X.base) I.ok.mod.kin hk (thn (ha.run pos pins s σ H _ I h) fun us s1 ⟨vs, H1, I1, r, q⟩ => ⟨I1.kIn, ?_⟩) he hpl
    exact q pins s1 us I1 r
  | blt hm hv =>
    refine ld_blt I hg hm hv ?_ hn hdb
    exact PyProof.Rows.callWith_builtin1 (thn (ha.run pos pins s σ H _ I h) fun us s1 ⟨vs, H1, I1, r, q⟩ => q pins s1 us I1 r) he hpl
  | typ hm hv =>
    refine ld_blt I hg hm hv ?_ hn hdb
    exact PyProof.Rows.callWith_type1 (thn (ha.run pos pins s σ H _ I h) fun us s1 ⟨vs, H1, I1, r, q⟩ => q pins s1 us I1 r) he hpl
/-- x() -/
theorem pe_callG0 {x : Str} {p : Pos} (hg : Gl X x) (hdb : (x == ("__debug__" : Str)) = false) (hn : x ≠ "__name__") : PE X (.Call (.Name x p) [] [] pos) (fun σ H Q => ∃ f, Cal X x f ∧ (∀ id, f ≠ .builtin id) ∧ CV X f [] σ H Q) := by
  refine ⟨fun pins s σ H Q I h => ?_⟩
  obtain ⟨f, cal, hnb, h⟩ := h
  refine wpAny_Call_Name_kw ?_
  cases cal with
  | own hm hk => exact ld_glob I hg hm (PySem.W.callWith_K0 I.kIn hk (h pins s [] I .nil)) hdb
  | blt hm hv => exact absurd rfl (hnb _)
  | typ hm hv => exact ld_blt I hg hm hv (PyProof.Rows.callWith_type0 (h pins s [] I .nil)) hn hdb
end
end Vc

namespace Vc
open PySem PySem.Spec PyProof.Rows L2

/-! ### small looks at the text -/
def isStar : Expr → Bool
  | .Starred _ _ => true
  | _ => false
def noStar (es : List Expr) : Bool := es.all fun e => !isStar e
def isSup : Expr → Bool
  | .Call (.Name _ _) [] [] _ => true
  | _ => false
def plainT : Expr → Bool
  | .UnaryOp .Not _ _ => false
  | .BoolOp .. => false
  | .IfExp .. => false
  | .Compare .. => false
  | _ => true
def isComp : Expr → Bool
  | .ListComp .. => true
  | .SetComp .. => true
  | .DictComp .. => true
  | _ => false
def isSlice : Expr → Bool
  | .Slice .. => true
  | _ => false
theorem star_hd {e : Expr} {es : List Expr} {env : Env} (h : isStar e = false) : starEach (e :: es) env = (false, eval e env) :: starEach es env := by
  cases e <;> first
    | rfl
    | cases h
theorem noStar_cons {e : Expr} {es : List Expr} (h : noStar (e :: es) = true) : isStar e = false ∧ noStar es = true := by
  unfold noStar at h ⊢
  rw [List.all_cons, Bool.and_eq_true] at h
  exact ⟨by simpa using h.1, h.2⟩
theorem star_any {pos : Pos} {env : Env} : ∀ {es : List Expr}, noStar es = true → (backTo pos (starEach es env)).any (·.1) = false
  | [], _ => rfl
  | e :: es, h => by
    obtain ⟨h1, h2⟩ := noStar_cons h
    rw [star_hd h1]
    show (false || (backTo pos (starEach es env)).any (·.1)) = false
    rw [star_any h2] <;> rfl
theorem star_all {pos : Pos} {env : Env} : ∀ {es : List Expr}, noStar es = true → (backTo pos (starEach es env)).all (fun x => !x.1) = true
  | [], _ => rfl
  | e :: es, h => by
    obtain ⟨h1, h2⟩ := noStar_cons h
    rw [star_hd h1]
    show (!false && (backTo pos (starEach es env)).all (fun x => !x.1)) = true
    rw [star_all h2] <;> rfl
theorem base_ok {o : Expr} {f : Str} {env : Env} {w : Sem Value} (h : isSup o = false) : attributeBase o f env w = w := by
  cases o with
  | Call fn as ks p =>
    cases fn with
    | Name id q =>
      cases as with
      | nil =>
        cases ks with
        | nil => cases h
        | cons _ _ => rfl
      | cons _ _ => rfl
    | _ => rfl
  | _ => rfl
theorem isTrue_ok {e : Expr} {env : Env} (h : plainT e = true) (w : Sem Value) : isTrue e env w = (do let v ← w; standAt e.pos; holding [v] (truthy v)) := by
  cases e with
  | UnaryOp op a p =>
    cases op with
    | Not => cases h
    | _ => rfl
  | BoolOp _ _ _ => cases h
  | IfExp _ _ _ _ => cases h
  | Compare _ _ _ _ => cases h
  | _ => rfl
theorem swaps_no {e : Expr} {t : Option Expr} {l : Nat} {env : Env} (h : isComp e = false) : swapsWith e t l env = pure false := by
  cases e <;> first
    | rfl
    | cases h
theorem meth_form {o : Expr} {m : Str} {apos pos : Pos} {args : List Expr} {env : Env} (h1 : isSup o = false) (h2 : noStar args = true) (h3 : args.length < 30) (h4 : (apos.endLine == pos.line) = true) :
    eval (.Call (.Attribute o m apos) args [] pos) env = (do
      let ov ← eval o env
      standAt apos.atName
      let (f, first) ← holding [ov] (getMethod ov m (do return (← importBound o env).getD true))
      callWith pos f first (backTo pos (starEach args env)) (backToKw pos (keywordEach [] env))) := by
  have e1 : methodCallForm (args.length + ([] : List Keyword).length) (backTo pos (starEach args env)) (backToKw pos (keywordEach [] env)) = true := by
    unfold methodCallForm
    rw [star_all h2]
    show (true && (true && decide (args.length + 0 + 0 < 30))) = true
    rw [decide_eq_true (by omega)] <;> rfl
  rw [arm_eval_Call, base_ok h1]
  unfold methodCall
  rw [e1]
  unfold calleeOf methodCallPos
  have e2 : (!true || apos.endLine == pos.line) = true := by rw [h4] <;> rfl
  simp only [e2, ↓reduceIte]
  rfl

/-! ### method calls, subscripts, slices, displays -/
section
variable {X : Cx} {a b c o : Expr} {ta tb tc to : TE} {pos apos : Pos}
theorem pe_mth0 {m : Str} (h1 : isSup o = false) (h4 : (apos.endLine == pos.line) = true) (he : PE X o to) : PE X (.Call (.Attribute o m apos) [] [] pos) (tMth X m to tNil) := by
  refine ⟨fun pins s σ H Q I h => ?_⟩
  refine PySem.W.methodCall_KW (thn (he.run pins s σ H _ I h) fun u s1 ⟨x, H1, I1, rx, f, M, q⟩ => ?_) (meth_form h1 rfl (by decide) h4)
  have q2 : CV X f [x] σ H1 Q := q
  cases M with
  | own e h c k l =>
    subst e
    cases rx
    exact getmeth_ok I1 h c k l (PySem.W.callWith_K0 (first := [.ref _]) I1.kIn k.kp (q2 pins s1 [.ref _] I1 (.cons rfl .nil)))
  | @blt T id pa slot hty ty =>
    obtain ⟨g1, g2⟩ := tyV_is I1 rx ty
    exact getMethod_builtin g1 pa slot hty g2 (Calls.callWith_builtin rfl (PySem.evalArgs_none (q2 pins s1 [u] I1 (.cons rx .nil))))
theorem pe_mth {m : Str} {e : Expr} {es : List Expr} {t : TA} (h1 : isSup o = false) (h2 : noStar (e :: es) = true) (h3 : (e :: es).length < 30) (h4 : (apos.endLine == pos.line) = true) (he : PE X o to) (ha : PA X (e :: es) t) :
    PE X (.Call (.Attribute o m apos) (e :: es) [] pos) (tMth X m to t) := by
  obtain ⟨n1, n2⟩ := noStar_cons h2
  refine ⟨fun pins s σ H Q I h => ?_⟩
  refine PySem.W.methodCall_KW (thn (he.run pins s σ H _ I h) fun u s1 ⟨x, H1, I1, rx, f, M, q⟩ => ?_) (meth_form h1 h2 h3 h4)
  cases M with
  | own e h c k l =>
    subst e
    cases rx
    refine getmeth_ok I1 h c k l (PySem.W.callWith_K (first := [.ref _]) (h₀ := X.base) I.ok.mod.kin k.kp (thn (ha.run pos pins s1 σ H1 _ I1 q) fun us s2 ⟨vs, H2, I2, r2, q2⟩ => ⟨I2.kIn, ?_⟩) (star_hd n1) (star_any n2))
    exact q2 pins s2 (.ref _ :: us) I2 (.cons rfl r2)
  | @blt T id pa slot hty ty =>
    obtain ⟨g1, g2⟩ := tyV_is I1 rx ty
    refine getMethod_builtin g1 pa slot hty g2 ?_
    have hA := ha.run pos pins s1 σ H1 _ I1 q
    rw [star_hd n1] at hA ⊢
    refine Calls.callWith_builtin (by show (false || (backTo pos (starEach es X.env)).any (·.1)) = false; rw [star_any n2] <;> rfl) (Calls.evalArgs_plain ?_)
    exact thn hA fun us s2 ⟨vs, H2, I2, r2, q2⟩ => q2 pins s2 (u :: us) I2 (.cons rx r2)
/-- x[i], i no slice -/
def Ix (X : Cx) (x y : V) : TE := fun σ H Q =>
  ∀ (value slice : Expr) (pins : List (Addr × Obj)) (s : Shared) (v u : Value), isSlice slice = false → Inv X pins σ H s → RelV x v → RelV y u → wpAny (model X.prog X.w) X.A (subscriptTail value slice v u) (EP X pins σ Q) X.xe s
def tIx (X : Cx) (ta tb : TE) : TE := fun σ H Q => ta σ H fun x H1 => tb σ H1 fun y H2 => Ix X x y σ H2 Q
theorem pe_ixv (hs : isSlice b = false) (ha : PE X a ta) (hb : PE X b tb) : PE X (.Subscript a b pos) (tIx X ta tb) :=
  ⟨fun pins s σ H Q I h => Subscript_ (binT ha hb I h fun v u s2 x y H2 I2 rx ry q => q a b pins s2 v u hs I2 rx ry)⟩
/-- x[lo:hi] -/
def Slc (X : Cx) (x : V) (lo hi : Option Int) : TE := fun σ H Q =>
  ∀ (pins : List (Addr × Obj)) (s : Shared) (v vl vu : Value) (sl : Addr), Inv X pins σ H s → RelV x v → s.heap.IsSliceOf sl vl vu .none → IsPart vl lo → IsPart vu hi →
    ∃ T id, typeLookup (.type T) "__getitem__" = pure (some (.builtin id)) ∧ s.TypeIs v T ∧ wpAny (model X.prog X.w) X.A (getItem v (.ref sl)) (EP X pins σ Q) X.xe s
def tSlc (X : Cx) (te : TE) (tl th : TO) : TE := fun σ H Q => te σ H fun x H1 => tl σ H1 fun l H2 => th σ H2 fun u H3 => Slc X x l u σ H3 Q
theorem pe_slc {lo hi : Option Expr} {tl th : TO} {p2 : Pos} (he : PE X a ta) (hl : PO X lo tl) (hu : PO X hi th) : PE X (.Subscript a (.Slice lo hi none p2) pos) (tSlc X ta tl th) := by
  refine ⟨fun pins s σ H Q I h => Subscript_ (thn (he.run pins s σ H _ I h) fun v s1 ⟨x, H1, I1, r1, q1⟩ => ?_)⟩
  refine wpAny_Slice (thn (hl.run pins s1 σ H1 _ I1 q1) fun vl s2 ⟨l, H2, I2, pl, q2⟩ => thn (hu.run pins s2 σ H2 _ I2 q2) fun vu s3 ⟨u, H3, I3, pu, q3⟩ => ?_)
  rw [evalPart_none]
  refine wpAny_pure ?_
  have I4 : Inv X pins σ H3 { s3 with heap := s3.heap.push { cls := .type "slice", data := .fields #[vl, vu, .none] } } := I3.kept (t' := s3.toks) fun b ob q => Heap.get?_push_of_some _ q
  obtain ⟨T, id, hT, ht, hg⟩ := q3 pins _ v vl vu s3.heap.objs.size I4 r1 (Heap.IsSliceOf.new ..) pl pu
  exact tail_any (ops := [.ref s3.heap.objs.size, v]) ht hT hg (by with_unfolding_all rfl)
end

/-! ### statements -/
section
variable {X : Cx} {a b c o e : Expr} {ta tb tc to te : TE} {pos apos : Pos}
/-- o.f = v -/
def gAtr (X : Cx) (f : Str) (to : TE) : TG := fun v σ H Q => to σ H fun x H1 => SetA X f x v σ H1 fun H2 => Q σ H2
def sAtr (X : Cx) (f : Str) (to tv : TE) : TS := fun D σ H => tv σ H fun y H1 => to σ H1 fun x H2 => SetA X f x y σ H2 fun H3 => D.nx σ H3
theorem ps_atr {f : Str} {p : Pos} {value : Expr} {tv : TE} (hv : PE X value tv) (ho : PE X o to) : PS X (.Assign [.Attribute o f p] value pos) (sAtr X f to tv) := by
  have hs : swapsWith value (some (.Attribute o f p)) pos.line X.env = pure false := by cases value <;> rfl
  refine ⟨fun pins s σ H D I h => ?_⟩
  refine plainObj_wpAny_Assign_Attribute (thn (hv.run pins s σ H _ I h) fun u s1 ⟨y, H1, I1, ry, q⟩ => thn (ho.run pins s1 σ H1 _ I1 q) fun ov s2 ⟨x, H2, I2, rx, q2⟩ => ?_) hs
  exact thn (q2 pins s2 ov u I2 rx ry) fun _ s3 ⟨H3, I3, q3⟩ => ⟨σ, H3, I3, q3⟩
/-- o[i] = v -/
def gIx (X : Cx) (to ti : TE) : TG := fun v σ H Q => to σ H fun o H1 => ti σ H1 fun i H2 => SetV X o i v σ H2 fun H3 => Q σ H3
theorem pg_ix {i : Expr} {ti : TE} (hs : isSlice i = false) (ho : PE X o to) (hi : PE X i ti) : PG X (.Subscript o i pos) (gIx X to ti) := by
  have ha : ∀ v, assign (.Subscript o i pos) X.env v = (do
      let ov ← holding [v] (eval o X.env)
      let iv ← holding [v, ov] (eval i X.env)
      standAt pos
      holding [v, ov, iv] (setItem ov iv v)
      release [v, ov, iv] []) := by
    intro v
    cases i <;> first
      | rfl
      | cases hs
  refine ⟨fun pins s σ H v u Q I r h => ?_⟩
  rw [ha]
  refine wpAny_bind (wpAny_holding (thn (ho.run pins s σ H _ I h) fun ov s1 ⟨x, H1, I1, r1, q1⟩ => ?_))
  refine wpAny_bind (wpAny_holding (thn (hi.run pins s1 σ H1 _ I1 q1) fun iv s2 ⟨y, H2, I2, r2, q2⟩ => ?_))
  refine wpAny_bind (wpAny_standAt (wpAny_bind (wpAny_holding (thn (q2 pins s2 ov iv u I2 r1 r2 r) fun _ s3 ⟨H3, I3, q3⟩ => ?_))))
  exact wpAny_release ⟨σ, H3, I3, q3⟩
/-- o[i] op= e -/
def sAugS (X : Cx) (op : Operator) (to ti te : TE) : TS := fun D σ H => to σ H fun o H1 => ti σ H1 fun i H2 =>
  O2 X getItem o i σ H2 fun x H3 => te σ H3 fun y H4 => O2 X (inplaceOp op) x y σ H4 fun z H5 => SetV X o i z σ H5 fun H6 => D.nx σ H6
theorem ps_augI {i : Expr} {ti : TE} {op : Operator} {p : Pos} (hs : isSlice i = false) (ho : PE X o to) (hi : PE X i ti) (he : PE X e te) : PS X (.AugAssign (.Subscript o i p) op e pos) (sAugS X op to ti te) := by
  have ha : ∀ ov iv new, augStore i ov iv new = (do holding [new, ov, iv] (setItem ov iv new); release [new, ov, iv] []; pure .next) := by
    intros
    cases i <;> first
      | rfl
      | cases hs
  refine ⟨fun pins s σ H D I h => wpAny_AugAssign_SubscriptAny (thn (ho.run pins s σ H _ I h) fun ov s1 ⟨x1, H1, I1, r1, q1⟩ => ?_) ha⟩
  refine thn (hi.run pins s1 σ H1 _ I1 q1) fun iv s2 ⟨x2, H2, I2, r2, q2⟩ => ?_
  refine thn (q2 pins s2 ov iv I2 r1 r2) fun old s3 ⟨x3, H3, I3, r3, q3⟩ => ?_
  refine thn (he.run pins s3 σ H3 _ I3 q3) fun v s4 ⟨x4, H4, I4, r4, q4⟩ => ?_
  refine thn (q4 pins s4 old v I4 r3 r4) fun new s5 ⟨x5, H5, I5, r5, q5⟩ => ?_
  exact thn (q5 pins s5 ov iv new I5 r1 r2 r5) fun _ s6 ⟨H6, I6, q6⟩ => ⟨σ, H6, I6, q6⟩
/-- a name op= e -/
def sAug (X : Cx) (op : Operator) (i : Nat) (te : TE) : TS := fun D σ H => ∃ x, σ[i]? = some (some x) ∧ te σ H fun y H1 => O2 X (inplaceOp op) x y σ H1 fun z H2 => D.nx (σ.set i (some z)) H2
/-- a for's walk over a value -/
def iAny (X : Cx) (te : TE) : TI := fun σ H R => te σ H fun x H1 => IterV X x σ H1 R
theorem pi_any {tg : Expr} (he : PE X e te) : PI X tg e (iAny X te) :=
  ⟨fun pins s σ H R I h => thn (he.run pins s σ H _ I h) fun v s1 ⟨x, H1, I1, r1, q1⟩ => q1 tg pins s1 v I1 r1⟩
end
end Vc

namespace Vc
open PySem PySem.Spec PyProof.Rows L2

/-! ### names -/
def okName (x : Str) : Bool := !(x == ("__debug__" : Str)) && (!(x == ("__classdict__" : Str)) && !(x == ("__name__" : Str)))
def slotOf (N : List Str) (x : Str) : Option Nat := match N.findIdx (fun y => y == x) with
  | i => match N[i]? with
    | some y => if (y == x) = true then some i else none
    | none => none
theorem slotOf_ok {N : List Str} {x : Str} {i : Nat} (h : slotOf N x = some i) : N[i]? = some x := by
  unfold slotOf at h
  simp only at h
  split at h
  · rename_i y e
    split at h
    · rename_i q
      have z : y = x := beq_iff_eq.mp q
      cases h
      rw [e, z]
    · cases h
  · cases h
/-- 1: local, 2: cell, 3: free, 4: the module's -/
def kd (sc : Scope) (x : Str) : Nat := match sc.names.lookup x with
  | some .local => 1
  | some .cell => 2
  | some .free => 3
  | some .globalImplicit => 4
  | _ => 0
theorem kd_vis {sc : Scope} {x : Str} (h : kd sc x = 1 ∨ kd sc x = 2 ∨ kd sc x = 3) : Vis sc x := by
  unfold kd at h
  unfold Vis
  split at h <;> simp_all
theorem kd_loc {sc : Scope} {x : Str} (h : kd sc x = 1 ∨ kd sc x = 2) : L2.Loc sc x := by
  unfold kd at h
  unfold L2.Loc
  split at h <;> simp_all
theorem kd_glo {sc : Scope} {x : Str} (h : kd sc x = 4) : sc.names.lookup x = some .globalImplicit := by
  unfold kd at h
  split at h <;> simp_all
/-- what a context must be for the readings of a text with these names and this scope -/
structure Fits (X : Cx) (N : List Str) (sc : Scope) : Prop where
  n : X.N = N
  s : X.env.scope = sc
  nd : N.Nodup
  fn : ∀ x, sc.names.lookup x = some .cell → X.fn x = true
def tName (X : Cx) (N : List Str) (sc : Scope) (x : Str) : TE := match okName x with
  | false => tBad
  | true => match kd sc x with
    | 1 | 2 | 3 => (match slotOf N x with
      | some i => tVar i
      | none => tBad)
    | 4 => tGlo X x
    | _ => tBad
theorem PE.bad {X : Cx} {e : Expr} : PE X e tBad := ⟨fun _ _ _ _ _ _ h => h.elim⟩
theorem PT.bad {X : Cx} {e : Expr} : PT X e tBadT := ⟨fun _ _ _ _ _ _ h => h.elim⟩
theorem okName_ok {x : Str} (h : okName x = true) : (x == ("__debug__" : Str)) = false ∧ (x == ("__classdict__" : Str)) = false ∧ x ≠ "__name__" := by
  unfold okName at h
  simp only [Bool.and_eq_true, Bool.not_eq_true'] at h
  exact ⟨h.1, h.2.1, fun e => by rw [e] at h; simp at h⟩
theorem name_ok {X : Cx} {N : List Str} {sc : Scope} (F : Fits X N sc) {x : Str} {pos : Pos} : PE X (.Name x pos) (tName X N sc x) := by
  unfold tName
  split
  · exact PE.bad
  · rename_i h
    obtain ⟨h1, h2, h3⟩ := okName_ok h
    split
    all_goals first
      | (rename_i k
         split
         · rename_i i e
           exact pe_var (by rw [F.n]; exact slotOf_ok e) (by rw [F.s]; exact kd_vis (by omega)) h1 h2
         · exact PE.bad)
      | (rename_i k
         exact pe_glo (by show X.env.scope.names.lookup x = _; rw [F.s]; exact kd_glo k) h1 h3)
      | exact PE.bad

/-! ### expressions -/
def rdA (r : Expr → TE) : List Expr → TA
  | [] => tNil
  | e :: es => tCons (r e) (rdA r es)
def rdO (r : Expr → TE) : Option Expr → TO
  | none => tNoPart
  | some e => tPart (r e)
def rdBool (X : Cx) (r : Expr → TE) : BoolOp → List Expr → TE
  | _, [] => tBad
  | _, [e] => r e
  | .And, e :: es => tAndE X (r e) (rdBool X r .And es)
  | .Or, e :: es => tOrE X (r e) (rdBool X r .Or es)
def rdBoolT (r : Expr → TT) : BoolOp → List Expr → TT
  | _, [] => tBadT
  | _, [e] => r e
  | .And, e :: es => tAnd (r e) (rdBoolT r .And es)
  | .Or, e :: es => tOr (r e) (rdBoolT r .Or es)
def tIfE (b : Bool) (t : TE) : TE := match b with
  | true => t
  | false => tBad
theorem ifE {X : Cx} {e : Expr} {b : Bool} {t : TE} (h : b = true → PE X e t) : PE X e (tIfE b t) := by
  cases b with
  | true => exact h rfl
  | false => exact PE.bad
def tCallG0 (X : Cx) (x : Str) : TE := fun σ H Q => ∃ f, Cal X x f ∧ (∀ id, f ≠ .builtin id) ∧ CV X f [] σ H Q
mutual
def rdE (X : Cx) (N : List Str) (sc : Scope) : Nat → Expr → TE
  | 0, _ => tBad
  | n + 1, e => match e with
    | .Constant (.int i) _ _ => tC (.int i)
    | .Constant (.bool b) _ _ => tC (.bl b)
    | .Constant .none _ _ => tC .non
    | .Constant (.str x) _ _ => tC (.str x)
    | .Name x _ => tName X N sc x
    | .BinOp a op b _ => tBin X (binaryOp op) (rdE X N sc n a) (rdE X N sc n b)
    | .UnaryOp op a _ => tUny X (unaryOp op) (rdE X N sc n a)
    | .BoolOp op vs _ => rdBool X (rdE X N sc n) op vs
    | .IfExp c a b _ => tIf (rdT X N sc n c) (rdE X N sc n a) (rdE X N sc n b)
    | .Compare a [op] [b] _ => tIfE (!behindInMarks op b) (tBin X (compareOp op) (rdE X N sc n a) (rdE X N sc n b))
    | .Compare a [op, op'] [b, c] _ => tIfE (!lastMarks [op, op'] [b, c]) (tCh X (compareOp op) (compareOp op') (rdE X N sc n a) (rdE X N sc n b) (rdE X N sc n c))
    | .Attribute a f _ => tIfE (!isSup a) (tAtr X f (rdE X N sc n a))
    | .Subscript a (.Slice lo hi none _) _ => tSlc X (rdE X N sc n a) (rdO (rdE X N sc n) lo) (rdO (rdE X N sc n) hi)
    | .Subscript a b _ => tIfE (!isSlice b) (tIx X (rdE X N sc n a) (rdE X N sc n b))
    | .Tuple es _ _ => tIfE (noStar es) (tTup (rdA (rdE X N sc n) es))
    | .List es _ => tIfE (noStar es) (tLst (rdA (rdE X N sc n) es))
    | .Call (.Name x _) [] [] _ => tIfE (okName x && kd sc x == 4) (tCallG0 X x)
    | .Call (.Name x _) (e :: es) [] _ => tIfE (okName x && (kd sc x == 4 && noStar (e :: es))) (tCallG X x (rdA (rdE X N sc n) (e :: es)))
    | .Call (.Attribute o m ap) args [] p => tIfE (!isSup o && (noStar args && (decide (args.length < 30) && ap.endLine == p.line))) (tMth X m (rdE X N sc n o) (rdA (rdE X N sc n) args))
    | _ => tBad
def rdT (X : Cx) (N : List Str) (sc : Scope) : Nat → Expr → TT
  | 0, _ => tBadT
  | n + 1, e => match e with
    | .UnaryOp .Not a _ => tNot (rdT X N sc n a)
    | .BoolOp op vs _ => rdBoolT (rdT X N sc n) op vs
    | .IfExp c a b _ => tIfT (rdT X N sc n c) (rdT X N sc n a) (rdT X N sc n b)
    | .Compare a [op] [b] _ => (match behindInMarks op b with
      | true => tBadT
      | false => tTru X (tBin X (compareOp op) (rdE X N sc n a) (rdE X N sc n b)))
    | .Compare a [op, op'] [b, c] _ => (match lastMarks [op, op'] [b, c] with
      | true => tBadT
      | false => tTest (tCh X (compareOp op) (compareOp op') (rdE X N sc n a) (rdE X N sc n b) (rdE X N sc n c)))
    | e => (match plainT e with
      | true => tTru X (rdE X N sc n e)
      | false => tBadT)
end
section
variable {X : Cx} {N : List Str} {sc : Scope}
theorem rdA_ok {r : Expr → TE} (h : ∀ e, PE X e (r e)) : ∀ {es : List Expr}, noStar es = true → PA X es (rdA r es)
  | [], _ => pa_nil
  | e :: es, hs => by
    obtain ⟨n1, n2⟩ := noStar_cons hs
    exact pa_cons (h e) (rdA_ok h n2) (star_hd n1)
theorem rdO_ok {r : Expr → TE} (h : ∀ e, PE X e (r e)) : ∀ {o : Option Expr}, PO X o (rdO r o)
  | none => po_none
  | some e => po_some (h e)
theorem rdBool_ok {r : Expr → TE} (h : ∀ e, PE X e (r e)) {pos : Pos} : ∀ {op : BoolOp} {es : List Expr}, PE X (.BoolOp op es pos) (rdBool X r op es)
  | op, [] => by cases op <;> exact PE.bad
  | op, [e] => by cases op <;> exact pe_one (h e)
  | .And, e :: e2 :: es => pe_andE (h e) (rdBool_ok h (op := .And) (es := e2 :: es))
  | .Or, e :: e2 :: es => pe_orE (h e) (rdBool_ok h (op := .Or) (es := e2 :: es))
theorem PW.bad {e : Expr} : PW X e tBadT := ⟨fun _ _ _ _ _ _ _ h => h.elim⟩
theorem rdBoolT_ok {r : Expr → TT} (h : ∀ e, PT X e (r e)) {pos : Pos} : ∀ {op : BoolOp} {es : List Expr}, PW X (.BoolOp op es pos) (rdBoolT r op es)
  | op, [] => by cases op <;> exact PW.bad
  | .And, [e] => pw_and1 (h e)
  | .Or, [e] => pw_or1 (h e)
  | .And, e :: e2 :: es => pw_and (h e) (rdBoolT_ok h (op := .And) (es := e2 :: es))
  | .Or, e :: e2 :: es => pw_or (h e) (rdBoolT_ok h (op := .Or) (es := e2 :: es))
theorem rd_ok (F : Fits X N sc) : ∀ n : Nat, (∀ e, PE X e (rdE X N sc n e)) ∧ (∀ e, PT X e (rdT X N sc n e))
  | 0 => ⟨fun e => by unfold rdE; exact PE.bad, fun e => by unfold rdT; exact PT.bad⟩
  | n + 1 => by
    obtain ⟨hE, hT⟩ := rd_ok F n
    have hg : ∀ {x : Str}, kd sc x = 4 → Gl X x := fun {x} k => by
      show X.env.scope.names.lookup x = _
      rw [F.s]
      exact kd_glo k
    refine ⟨fun e => ?_, fun e => ?_⟩
    · unfold rdE
      split
      · exact pe_int
      · exact pe_bl
      · exact pe_non
      · exact pe_str
      · exact name_ok F
      · exact pe_bin (hE _) (hE _)
      · exact pe_uny (hE _)
      · exact rdBool_ok hE
      · exact pe_ifExp (hT _) (hE _) (hE _)
      · exact ifE fun h => pe_cmp1 (hE _) (hE _) (by simpa using h)
      · exact ifE fun h => pe_ch (hE _) (hE _) (hE _) (by simpa using h)
      · exact ifE fun h => pe_atr (hE _) (base_ok (by simpa using h))
      · exact pe_slc (hE _) (rdO_ok hE) (rdO_ok hE)
      · exact ifE fun h => pe_ixv (by simpa using h) (hE _) (hE _)
      · exact ifE fun h => pe_tup (rdA_ok hE h)
      · exact ifE fun h => pe_lst (rdA_ok hE h)
      · refine ifE fun h => ?_
        simp only [Bool.and_eq_true, beq_iff_eq] at h
        obtain ⟨h1, h2, h3⟩ := okName_ok h.1
        exact pe_callG0 (hg h.2) h1 h3
      · refine ifE fun h => ?_
        simp only [Bool.and_eq_true, beq_iff_eq] at h
        obtain ⟨h1, h2, h3⟩ := okName_ok h.1
        obtain ⟨n1, n2⟩ := noStar_cons h.2.2
        exact pe_callG (hg h.2.1) h1 h3 (rdA_ok hE h.2.2) (star_hd n1) (star_any n2)
      · refine ifE fun h => ?_
        rename_i o m ap args p
        simp only [Bool.and_eq_true, decide_eq_true_eq, Bool.not_eq_true'] at h
        obtain ⟨h1, h2, h3, h4⟩ := h
        cases args with
        | nil => exact pe_mth0 h1 h4 (hE _)
        | cons e es => exact pe_mth h1 h2 h3 h4 (hE _) (rdA_ok hE h2)
      · exact PE.bad
    · unfold rdT
      split
      · exact pt_not (hT _)
      · exact (rdBoolT_ok hT).pt
      · exact pt_ifE (hT _) (hT _) (hT _)
      · split
        · exact PT.bad
        · exact pt_cmp1 (hE _) (hE _) (by assumption)
      · split
        · exact PT.bad
        · exact pt_ch (hE _) (hE _) (hE _) (by assumption)
      · split
        · exact pt_any (hE _) (isTrue_ok (by assumption))
        · exact PT.bad
end
end Vc

namespace Vc
open PySem PySem.Spec PyProof.Rows L2

/-! ### targets -/
/-- (a, b, ..) = a tuple or a list of that length -/
def gUnp (K : PySem.W.Frag) (n : Nat) (t : TGs) : TG := fun v σ H Q => ∃ a xs, v = .ref a ∧ (SqT K H a xs ∨ SqL K H a xs) ∧ xs.length = n ∧ t xs σ H Q
def gBad : TG := fun _ _ _ _ => False
theorem PG.bad {X : Cx} {e : Expr} : PG X e gBad := ⟨fun _ _ _ _ _ _ _ _ _ h => h.elim⟩
theorem PS.bad {X : Cx} {st : Stmt} : PS X st tNever := ps_never
def rdGs (r : Expr → TG) : List Expr → TGs
  | [] => gNil
  | e :: es => gCons (r e) (rdGs r es)
theorem each_ns {env : Env} : ∀ {es : List Expr}, noStar es = true → (assignEach es env).length = es.length ∧ (assignEach es env).findIdx? (·.1) = none
  | [], _ => ⟨rfl, rfl⟩
  | e :: es, h => by
    obtain ⟨h1, h2⟩ := noStar_cons h
    obtain ⟨i1, i2⟩ := each_ns (env := env) h2
    have e1 : assignEach (e :: es) env = (false, assign e env) :: assignEach es env := by
      cases e <;> first
        | rfl
        | cases h1
    rw [e1]
    refine ⟨by rw [List.length_cons, i1, List.length_cons], ?_⟩
    rw [List.findIdx?_cons, i2] <;> rfl
theorem each_hd {e : Expr} {es : List Expr} {env : Env} (h : isStar e = false) : (assignEach (e :: es) env).map (·.2) = assign e env :: (assignEach es env).map (·.2) := by
  cases e <;> first
    | rfl
    | cases h
theorem pg_unp {X : Cx} {es : List Expr} {k : Nat} {t : TGs} {pos : Pos} (hc : X.calm = true) (h2 : noStar es = true) (h : PGs X es t) : PG X (.Tuple es k pos) (gUnp X.K es.length t) := by
  obtain ⟨n1, n2⟩ := each_ns (env := X.env) h2
  refine ⟨fun pins s σ H v u Q I r hw => ?_⟩
  obtain ⟨a, xs, e, hq, hl, hw⟩ := hw
  rcases hq with hq | hq
  · exact (pg_tup hc h n1 n2).run pins s σ H v u Q I r ⟨a, xs, e, hq, hl, hw⟩
  · exact (pg_lst hc h n1 n2).run pins s σ H v u Q I r ⟨a, xs, e, hq, hl, hw⟩
def gOf (N : List Str) (sc : Scope) (x : Str) : TG := match kd sc x with
  | 1 | 2 => (match slotOf N x with
    | some i => gName i
    | none => gBad)
  | _ => gBad
def rdG (X : Cx) (N : List Str) (sc : Scope) (cm : Bool) (r : Expr → TE) : Nat → Expr → TG
  | 0, _ => gBad
  | n + 1, e => match e with
    | .Name x _ => gOf N sc x
    | .Subscript o i _ => (match isSlice i with
      | true => gBad
      | false => gIx X (r o) (r i))
    | .Tuple es _ _ => (match cm && noStar es with
      | true => gUnp X.K es.length (rdGs (rdG X N sc cm r n) es)
      | false => gBad)
    | _ => gBad
section
variable {X : Cx} {N : List Str} {sc : Scope}
theorem gOf_ok (F : Fits X N sc) {x : Str} {pos : Pos} : PG X (.Name x pos) (gOf N sc x) := by
  unfold gOf
  split
  all_goals first
    | (rename_i k
       split
       · rename_i i e
         have lc : L2.Loc sc x := kd_loc (by omega)
         refine pg_name (by rw [F.n]; exact F.nd) (by rw [F.n]; exact slotOf_ok e) (by rw [F.s]; exact lc) ?_
         rcases lc with h | h
         · exact .inr (by rw [F.s]; exact h)
         · exact .inl (F.fn _ h)
       · exact PG.bad)
    | exact PG.bad
theorem rdGs_ok {r : Expr → TG} (h : ∀ e, PG X e (r e)) : ∀ {es : List Expr}, noStar es = true → PGs X es (rdGs r es)
  | [], _ => pgs_nil
  | e :: es, hs => by
    obtain ⟨n1, n2⟩ := noStar_cons hs
    exact pgs_cons (h e) (rdGs_ok h n2) (each_hd n1)
theorem rdG_ok (F : Fits X N sc) {cm : Bool} (hc : cm = true → X.calm = true) {r : Expr → TE} (hr : ∀ e, PE X e (r e)) : ∀ (n : Nat) (e : Expr), PG X e (rdG X N sc cm r n e)
  | 0, _ => by unfold rdG; exact PG.bad
  | n + 1, e => by
    unfold rdG
    split
    · exact gOf_ok F
    · split
      · exact PG.bad
      · exact pg_ix (by assumption) (hr _) (hr _)
    · split
      · rename_i h
        rw [Bool.and_eq_true] at h
        exact pg_unp (hc h.1) h.2 (rdGs_ok (rdG_ok F hc hr n) h.2)
      · exact PG.bad
    · exact PG.bad
end

/-! ### what a for walks -/
def iRg1 (X : Cx) (ta : TA) : TI := fun σ H R => X.mg "range" = none ∧ iRng1 ta σ H R
def iRg2 (X : Cx) (ta : TA) : TI := fun σ H R => X.mg "range" = none ∧ iRng2 ta σ H R
def iBad : TI := fun _ _ _ => False
theorem PI.bad {X : Cx} {tg e : Expr} : PI X tg e iBad := ⟨fun _ _ _ _ _ _ h => h.elim⟩
def iIf (b : Bool) (t : TI) : TI := match b with
  | true => t
  | false => iBad
theorem ifI {X : Cx} {tg e : Expr} {b : Bool} {t : TI} (h : b = true → PI X tg e t) : PI X tg e (iIf b t) := by
  cases b with
  | true => exact h rfl
  | false => exact PI.bad
/-- a call by name, without keywords: the name, the arguments -/
def callOf : Expr → Option (Str × List Expr)
  | .Call (.Name x _) as [] _ => some (x, as)
  | _ => none
theorem callOf_ok {e : Expr} {x : Str} {as : List Expr} (h : callOf e = some (x, as)) : ∃ p pos, e = .Call (.Name x p) as [] pos := by
  unfold callOf at h
  split at h
  · rename_i y p bs pos
    obtain ⟨rfl, rfl⟩ := Prod.mk.inj (Option.some.inj h)
    exact ⟨p, pos, rfl⟩
  · cases h
def rdI (X : Cx) (sc : Scope) (r : Expr → TE) (e : Expr) : TI := match callOf e with
  | some (x, as) => (match decide (x = "range") with
    | true => (match as with
      | [a] => iIf (kd sc "range" == 4 && noStar [a]) (iRg1 X (rdA r [a]))
      | [a, b] => iIf (kd sc "range" == 4 && noStar [a, b]) (iRg2 X (rdA r [a, b]))
      | _ => iBad)
    | false => iAny X (r e))
  | none => iAny X (r e)
section
variable {X : Cx} {N : List Str} {sc : Scope}
theorem gl_of (F : Fits X N sc) {x : Str} (h : kd sc x = 4) : Gl X x := by
  show X.env.scope.names.lookup x = _
  rw [F.s]
  exact kd_glo h
theorem rdI_ok (F : Fits X N sc) {r : Expr → TE} (hr : ∀ e, PE X e (r e)) {tg e : Expr} : PI X tg e (rdI X sc r e) := by
  unfold rdI
  split
  · rename_i x as h
    obtain ⟨p, pos, rfl⟩ := callOf_ok h
    split
    · rename_i hx
      obtain rfl := of_decide_eq_true hx
      split
      · refine ifI fun h => ?_
        simp only [Bool.and_eq_true, beq_iff_eq] at h
        refine ⟨fun pins s σ H R I hw => ?_⟩
        obtain ⟨n1, _⟩ := noStar_cons h.2
        exact (pi_range1 (gl_of F h.1) hw.1 (rdA_ok hr h.2) (star_hd n1)).run pins s σ H R I hw.2
      · refine ifI fun h => ?_
        simp only [Bool.and_eq_true, beq_iff_eq] at h
        refine ⟨fun pins s σ H R I hw => ?_⟩
        obtain ⟨n1, n2⟩ := noStar_cons h.2
        obtain ⟨n3, _⟩ := noStar_cons n2
        have e2 := star_hd (env := X.env) (es := []) n3
        exact (pi_range2 (gl_of F h.1) hw.1 (rdA_ok hr h.2) (by rw [star_hd n1, e2] <;> rfl) e2).run pins s σ H R I hw.2
      · exact PI.bad
    · exact pi_any (hr _)
  · exact pi_any (hr _)
end

/-! ### a, b = c, d: stored from the right -/
def swOk (sc : Scope) (x y : Str) (px py : Pos) (a b : Expr) : Bool :=
  (sc.names.lookup x == some .local && sc.names.lookup y == some .local) && ((py.line == px.line && !(x == y)) && ((!isStar a && !isStar b) && (!(foldedForSure 8 a && foldedForSure 8 b) && !(constantsAlone 8 a && constantsAlone 8 b))))
theorem sw_ok {sc : Scope} {env : Env} {x y : Str} {px py pt pt2 : Pos} {kt k2 : Nat} {a b : Expr} (hs : env.scope = sc) (hk : env.scope.kind = .function) (h : swOk sc x y px py a b = true) :
    swappedStores [.Tuple [.Name x px, .Name y py] kt pt] (.Tuple [a, b] k2 pt2) env = pure (some [x, y]) := by
  unfold swOk at h
  simp only [Bool.and_eq_true, beq_iff_eq, Bool.not_eq_true'] at h
  obtain ⟨⟨h1, h2⟩, ⟨h3, h4⟩, ⟨h5, h6⟩, h7, h8⟩ := h
  have kx : env.kindOf x = some .local := by show env.scope.names.lookup x = _; rw [hs]; exact h1
  have ky : env.kindOf y = some .local := by show env.scope.names.lookup y = _; rw [hs]; exact h2
  have bk : env.blockKind = .function := by unfold Env.blockKind; rw [hk]; rfl
  have ne : ¬ y = x := fun e => by rw [e] at h4; simp at h4
  have xy : (y == x) = false := by simpa using ne
  have ed : [x, y].eraseDups = [x, y] := by simp [List.eraseDups_cons, List.filter, xy]
  have fm : ∀ f : Expr → Option Str, f (.Name x px) = some x → f (.Name y py) = some y → [Expr.Name x px, Expr.Name y py].filterMap f = [x, y] := fun f e1 e2 => by simp [e1, e2]
  have cd : (env.kindOf x == some NameKind.local && px.line == px.line) = true := by rw [kx]; simp
  have ce : (env.kindOf y == some NameKind.local && py.line == px.line) = true := by rw [ky]; simp [h3]
  unfold swappedStores
  dsimp only
  rw [bk, if_neg (by simp), if_neg (by show ¬ ((isStar a || (isStar b || false)) = true); rw [h5, h6]; decide), fm _ (if_pos cd) (if_pos ce), ed, if_neg (by simp)]
  rw [if_neg (by simp only [List.all_cons, List.all_nil, Bool.and_true]; rw [h7]; decide), if_neg (by simp only [List.all_cons, List.all_nil, Bool.and_true]; rw [h8]; decide)]
end Vc

namespace Vc
open PySem PySem.Spec PyProof.Rows L2

/-! ### statements -/
structure Bod (X : Cx) (N : List Str) (sc : Scope) : Prop extends Fits X N sc where
  stk : X.stack = X.env :: X.outer
  frm : X.env.frame = some X.env.locals
  pas : PassesOwn (model X.prog X.w) X.A X.env X.xe
/-- what an exception's class makes of values -/
def MkV (X : Cx) (f : Value) (vs : List V) (σ : L2.St) (H : Hp) (Q : XK) : Prop :=
  ∀ (pins : List (Addr × Obj)) (s : Shared) (us : List Value), Inv X pins σ H s → Vals vs us → wpAny (model X.prog X.w) X.A (call f us) (MkP X pins σ Q) X.xe s
def tRai (X : Cx) (W : WX) (x : Str) (ta : TA) : TS := fun _ σ H => ∃ f, Cal X x f ∧ ta σ H fun vs H1 => MkV X f vs σ H1 fun cls d H' => W cls d σ H'
theorem pmk_any {X : Cx} {x : Str} {p pos : Pos} {e : Expr} {es : List Expr} {t : TA} (hg : Gl X x) (hdb : (x == ("__debug__" : Str)) = false) (hn : x ≠ "__name__") (ha : PA X (e :: es) t) (hs : noStar (e :: es) = true) :
    PMk X (.Call (.Name x p) (e :: es) [] pos) (fun σ H Q => ∃ f, Cal X x f ∧ t σ H fun vs H1 => MkV X f vs σ H1 Q) := by
  intro pins s σ H Q I h
  obtain ⟨n1, n2⟩ := noStar_cons hs
  obtain ⟨f, cal, h⟩ := h
  have go := thn (ha.run pos pins s σ H _ I h) fun us s1 ⟨vs, H1, I1, r, q⟩ => (⟨I1.kIn, q pins s1 us I1 r⟩ : X.K.In s1.heap ∧ wpAny (model X.prog X.w) X.A (call f us) (MkP X pins σ Q) X.xe s1)
  refine wpAny_Call_Name_kw ?_
  cases cal with
  | own hm hk => exact ld_glob I hg hm (PySem.W.callWith_K (h₀ := X.base) I.ok.mod.kin hk go (star_hd n1) (star_any n2)) hdb
  | blt hm hv => exact ld_blt I hg hm hv (PyProof.Rows.callWith_builtin1 (thn go fun _ _ z => z.2) (star_hd n1) (star_any n2)) hn hdb
  | typ hm hv => exact ld_blt I hg hm hv (PyProof.Rows.callWith_type1 (thn go fun _ _ z => z.2) (star_hd n1) (star_any n2)) hn hdb
/-- the class that an except clause names -/
def NameV (X : Cx) (x : Str) (c : Value) : Prop := X.mg x = some c ∨ (X.mg x = none ∧ bootBuiltins x = some c)
inductive NamesL (X : Cx) : List Str → List Value → Prop where
  | nil : NamesL X [] []
  | cons {x : Str} {c : Value} {xs : List Str} {cs : List Value} (h : NameV X x c) (t : NamesL X xs cs) : NamesL X (x :: xs) (c :: cs)
abbrev TSu := Addr → Value → Option Addr → TS
/-- the clauses without names: their classes' names, their suites -/
def hdls : List ExceptHandler → Option (List (Str × List Stmt))
  | [] => some []
  | .ExceptHandler (some (.Name x _)) none (b :: su) _ :: r => (match hdls r with
    | some l => some ((x, b :: su) :: l)
    | none => none)
  | _ => none
def W0 : WX := fun _ _ _ _ => False
def tSuite (X : Cx) (t : Cx → TS) : TSu := fun a cls d D σ H => ∀ (oe : Obj) (pn : List (Addr × Obj)), Zc cls d oe → (∃ vs, oe.data = .fields vs) → t (X.suite a ((a, oe) :: pn)) D σ H
def tTryM (X : Cx) (W : WX) (xs : List Str) (sus : List TSu) (tb : Cx → WX → TS) : TS := fun D σ H => ∃ cs : List Value, NamesL X xs cs ∧
  ∀ (pn : List (Addr × Obj)) (xe : Value → Shared → Prop), Takes (X.tr pn xe) (wMany X.K W D (cs.zip sus)) → tb (X.tr pn xe) (wMany X.K W D (cs.zip sus)) D σ H
def tTryA (X : Cx) (W : WX) (x : Str) (i : Nat) (su : TSu) (tb : Cx → WX → TS) : TS := fun D σ H => ∃ c : Value, NameV X x c ∧
  ∀ (pn : List (Addr × Obj)) (xe : Value → Shared → Prop), Takes (X.tr pn xe) (wAs X.K c i su W D) → tb (X.tr pn xe) (wAs X.K c i su W D) D σ H
def isSetE : Expr → Bool
  | .Set .. => true
  | _ => false
def tIfS' (b : Bool) (t : TS) : TS := match b with
  | true => t
  | false => tNever
theorem ifS {X : Cx} {st : Stmt} {b : Bool} {t : TS} (h : b = true → PS X st t) : PS X st (tIfS' b t) := by
  cases b with
  | true => exact h rfl
  | false => exact ps_never
def rdSs (r : Stmt → TS) : List Stmt → TS
  | [] => tNext
  | [s] => r s
  | s :: s2 :: rest => tSeq (r s) (rdSs r (s2 :: rest))
theorem rdSs_ok {X : Cx} {r : Stmt → TS} (h : ∀ s, PS X s (r s)) : ∀ {l : List Stmt}, PSs X l (rdSs r l)
  | [] => pss_nil
  | [s] => pss_one (h s)
  | s :: s2 :: rest => pss_cons (h s) (rdSs_ok h (l := s2 :: rest))
def sBy (o : Option Nat) (f : Nat → TS) : TS := match o with
  | some i => f i
  | none => tNever
def okG (x : Str) (sc : Scope) : Bool := okName x && kd sc x == 4
def rdS (N : List Str) (sc : Scope) : Nat → Cx → WX → Bool → Stmt → TS
  | 0, _, _, _, _ => tNever
  | n + 1, X, W, cm, st => match st with
    | .Pass _ => tNext
    | .Break _ => tBreak
    | .Continue _ => tCont
    | .Expr (.Constant (.str _) _ _) _ => tNext
    | .Expr e _ => tIfS' (!isComp e) (tDrop (rdE X N sc n e))
    | .Return none _ => tRetN
    | .Return (some e) _ => tRet (rdE X N sc n e)
    | .If c a b _ => tIfS (rdT X N sc n c) (rdSs (rdS N sc n X W cm) a) (rdSs (rdS N sc n X W cm) b)
    | .Assign [.Name x _] e _ => tIfS' (!isComp e) (tAsg (rdE X N sc n e) (gOf N sc x))
    | .Assign [.Attribute o f _] e _ => sAtr X f (rdE X N sc n o) (rdE X N sc n e)
    | .Assign [.Subscript o i p] e _ => tIfS' (!isComp e) (tAsg (rdE X N sc n e) (rdG X N sc cm (rdE X N sc n) n (.Subscript o i p)))
    | .Assign [.Tuple [.Name x px, .Name y py] kt pt] (.Tuple [a, b] k2 p2) _ =>
      tIfS' (cm && (sc.kind == .function && swOk sc x y px py a b)) (sBy (slotOf N x) fun i => sBy (slotOf N y) fun j => tPar i j (rdA (rdE X N sc n) [a, b]))
    | .Assign [.Tuple es k p] e _ => tIfS' (!isComp e && (match e with | .Tuple _ _ _ => es.length == 4 | _ => true)) (tAsg (rdE X N sc n e) (rdG X N sc cm (rdE X N sc n) n (.Tuple es k p)))
    | .AugAssign (.Name x _) op e _ => tIfS' (kd sc x == 1) (sBy (slotOf N x) fun i => sAug X op i (rdE X N sc n e))
    | .AugAssign (.Subscript o i _) op e _ => tIfS' (!isSlice i) (sAugS X op (rdE X N sc n o) (rdE X N sc n i) (rdE X N sc n e))
    | .For tg it body [] _ => tIfS' (cm && !isSetE it) (tFor (rdI X sc (rdE X N sc n) it) (rdG X N sc cm (rdE X N sc n) n tg) (rdSs (rdS N sc n X W cm) body))
    | .While c body [] _ => tWhile (rdT X N sc n c) (rdSs (rdS N sc n X W cm) body)
    | .Raise (some (.Call (.Name x _) (e :: es) [] _)) none _ => tIfS' (cm && (okG x sc && noStar (e :: es))) (tRai X W x (rdA (rdE X N sc n) (e :: es)))
    | .Try body [.ExceptHandler (some (.Name x _)) (some m) (b :: su) _] [] [] _ =>
      tIfS' (cm && (okG x sc && kd sc m == 1)) (sBy (slotOf N m) fun i => tTryA X W x i (tSuite X fun Y => rdSs (rdS N sc n Y W0 false) (b :: su)) fun Y V => rdSs (rdS N sc n Y V true) body)
    | .Try body (h0 :: hs) [] [] _ => (match hdls (h0 :: hs) with
      | some l => tIfS' (cm && l.all fun q => okG q.1 sc) (tTryM X W (l.map (·.1)) (l.map fun q => tSuite X fun Y => rdSs (rdS N sc n Y W0 false) q.2) fun Y V => rdSs (rdS N sc n Y V true) body)
      | none => tNever)
    | _ => tNever
section
variable {N : List Str} {sc : Scope}
theorem Bod.tr {X : Cx} (B : Bod X N sc) {pn : List (Addr × Obj)} {xe : Value → Shared → Prop} (h : PassesOwn (model X.prog X.w) X.A X.env xe) : Bod (X.tr pn xe) N sc := ⟨⟨B.n, B.s, B.nd, B.fn⟩, B.stk, B.frm, h⟩
theorem Bod.suite {X : Cx} (B : Bod X N sc) {a : Addr} {pn : List (Addr × Obj)} : Bod (X.suite a pn) N sc := ⟨⟨B.n, B.s, B.nd, B.fn⟩, B.stk, B.frm, PassesOwn.never⟩
theorem names_of {X : Cx} (F : Fits X N sc) {x : Str} {c : Value} (h : okG x sc = true) (v : NameV X x c) : Names X x c := by
  unfold okG at h
  simp only [Bool.and_eq_true, beq_iff_eq] at h
  obtain ⟨h1, h2, h3⟩ := okName_ok h.1
  refine ⟨gl_of F h.2, h1, ?_⟩
  rcases v with v | ⟨v1, v2⟩
  · exact .inl v
  · exact .inr ⟨v1, v2, h3⟩
theorem hds_ok {X : Cx} (F : Fits X N sc) {sus : List Stmt → Cx → TS} (hsu : ∀ (su : List Stmt) (a : Addr) (oe : Obj) (pn : List (Addr × Obj)), PSs (X.suite a ((a, oe) :: pn)) su (sus su (X.suite a ((a, oe) :: pn)))) :
    ∀ {hs : List ExceptHandler} {l : List (Str × List Stmt)} {cs : List Value}, hdls hs = some l → (l.all fun q => okG q.1 sc) = true → NamesL X (l.map (·.1)) cs → HdsOk X hs (cs.zip (l.map fun q => tSuite X (sus q.2)))
  | [], l, cs, e, _, nm => by
    have e1 : l = [] := by
      unfold hdls at e
      exact (Option.some.inj e).symm
    subst e1
    cases nm
    exact .nil
  | h0 :: hs, l, cs, e, ok, nm => by
    unfold hdls at e
    split at e
    · rename_i q
      cases q
    · rename_i x np b su p' r hh
      obtain ⟨rfl, rfl⟩ := List.cons.inj hh
      split at e
      · rename_i l2 e2
        cases e
        rw [List.all_cons, Bool.and_eq_true] at ok
        cases nm with
        | cons h t =>
          exact .cons (names_of F ok.1 h) (fun a oe cls d pn hz hf => ⟨fun pins s σ H D I hw => (hsu (b :: su) a oe pn).run pins s σ H D I (hw oe pn hz hf)⟩) (hds_ok F hsu e2 ok.2 t)
      · cases e
    · cases e
theorem asg_eq {X : Cx} {tg e : Expr} {te : TE} {g : TG} {pos : Pos} (he : PE X e te) (hg : PG X tg g) (hs : isComp e = false) (h1 : isStar tg = false) (hw : swappedStores [tg] e X.env = pure none) : PS X (.Assign [tg] e pos) (tAsg te g) :=
  ps_asg he hg (swaps_no hs) hw (by rw [each_hd h1] <;> rfl)
theorem kd1 {x : Str} (h : kd sc x = 1) : sc.names.lookup x = some .local := by
  unfold kd at h
  split at h <;> simp_all
theorem ps_augN {X : Cx} {i : Nat} {x : Str} {e : Expr} {te : TE} {op : Operator} {p pos : Pos} (hN : X.N.Nodup) (hi : X.N[i]? = some x) (hx : X.env.scope.names.lookup x = some .local) (he : PE X e te) : PS X (.AugAssign (.Name x p) op e pos) (sAug X op i te) := by
  refine ⟨fun pins s σ H D I h => ?_⟩
  obtain ⟨v, e1, h⟩ := h
  obtain ⟨m, hn, hl⟩ := I.loc
  obtain ⟨u, r, l⟩ := hl i x v hi e1 (.inl hx)
  refine wpAny_AugAssign_Name ?_
  rcases l with ⟨hk, hm⟩ | ⟨hk, _⟩
  · refine wpAny_loadName_local I.ok.kind hk hn hm (thn (he.run pins s σ H _ I h) fun w s1 ⟨y, H1, I1, r1, q1⟩ => ?_)
    refine thn (q1 pins s1 u w I1 r r1) fun z s2 ⟨zv, H2, I2, r2, q2⟩ => ?_
    exact store_ok I2 hN hi (.inl hx) r2 (fun s3 I3 => ⟨_, H2, I3, q2⟩) (.inr hx)
  · have hx' : X.env.kindOf x = some .local := hx
    rw [hx'] at hk
    rcases hk with hk | hk <;> cases hk
theorem rdS_ok : ∀ (n : Nat) {X : Cx} {W : WX} {cm : Bool}, Bod X N sc → (cm = true → X.calm = true) → Takes X W → ∀ st, PS X st (rdS N sc n X W cm st)
  | 0, X, W, cm, _, _, _, st => by
    unfold rdS
    exact ps_never
  | n + 1, X, W, cm, B, hc, tk, st => by
    have hE : ∀ e, PE X e (rdE X N sc n e) := (rd_ok B.toFits n).1
    have hT : ∀ e, PT X e (rdT X N sc n e) := (rd_ok B.toFits n).2
    have hS : ∀ {l : List Stmt}, PSs X l (rdSs (rdS N sc n X W cm) l) := rdSs_ok (rdS_ok n B hc tk)
    have hSu : ∀ (su : List Stmt) (a : Addr) (oe : Obj) (pn : List (Addr × Obj)), PSs (X.suite a ((a, oe) :: pn)) su (rdSs (rdS N sc n (X.suite a ((a, oe) :: pn)) W0 false) su) := fun su a oe pn =>
      rdSs_ok (rdS_ok n (W := W0) (cm := false) B.suite (fun z => absurd z (by decide)) takes0)
    unfold rdS
    split
    · exact ps_pass
    · exact ps_break
    · exact ps_continue
    · exact ps_doc
    · exact ifS fun h => ps_expr (hE _) (swaps_no (by simpa using h))
    · exact ps_retN
    · exact ps_ret (hE _)
    · exact ps_if (hT _) hS hS
    · refine ifS fun h => asg_eq (hE _) (gOf_ok B.toFits) (by simpa using h) rfl ?_
      rename_i e _ _
      cases e <;> rfl
    · exact ps_atr (hE _) (hE _)
    · refine ifS fun h => asg_eq (hE _) (rdG_ok B.toFits hc hE n _) (by simpa using h) rfl ?_
      rename_i e _ _
      cases e <;> rfl
    · refine ifS fun h => ?_
      simp only [Bool.and_eq_true, beq_iff_eq] at h
      rename_i x px y py kt pt a b k2 p2 pos
      obtain ⟨h1, h2, h3⟩ := h
      have h3' := h3
      unfold swOk at h3'
      simp only [Bool.and_eq_true, beq_iff_eq, Bool.not_eq_true'] at h3'
      obtain ⟨⟨x1, x2⟩, ⟨x3, x4⟩, ⟨x5, x6⟩, _⟩ := h3'
      unfold sBy
      split
      · rename_i i ei
        split
        · rename_i j ej
          have nij : i ≠ j := fun e => by
            have q1 := slotOf_ok ei
            have q2 := slotOf_ok ej
            rw [e, q2] at q1
            have q3 := Option.some.inj q1
            rw [q3] at x4
            simp at x4
          exact ps_par (hc h1) (by rw [B.n]; exact B.nd) (by rw [B.n]; exact slotOf_ok ei) (by rw [B.n]; exact slotOf_ok ej) nij (by rw [B.s]; exact x1) (by rw [B.s]; exact x2)
            (rdA_ok hE (by show (!isStar a && (!isStar b && true)) = true; rw [x5, x6] <;> rfl)) (sw_ok B.s (by rw [B.s]; exact h2) h3) (by rfl)
        · exact ps_never
      · exact ps_never
    · refine ifS fun h => ?_
      simp only [Bool.and_eq_true, Bool.not_eq_true'] at h
      rename_i es k p e pos hne
      refine asg_eq (hE _) (rdG_ok B.toFits hc hE n _) h.1 rfl ?_
      cases e with
      | Tuple vs k2 p2 =>
        have h4 : es.length = 4 := beq_iff_eq.mp h.2
        unfold swappedStores
        dsimp only
        rw [if_pos (by rw [h4]; rfl)]
      | _ => rfl
    · refine ifS fun h => ?_
      rename_i x p op e pos
      unfold sBy
      split
      · rename_i i ei
        have k1 : kd sc x = 1 := beq_iff_eq.mp h
        exact ps_augN (by rw [B.n]; exact B.nd) (by rw [B.n]; exact slotOf_ok ei) (by rw [B.s]; exact kd1 k1) (hE _)
      · exact ps_never
    · exact ifS fun h => ps_augI (by simpa using h) (hE _) (hE _) (hE _)
    · refine ifS fun h => ?_
      simp only [Bool.and_eq_true, Bool.not_eq_true'] at h
      rename_i tg it body pos
      exact ps_for B.pas (hc h.1) (rdI_ok B.toFits hE) (rdG_ok B.toFits hc hE n _) hS (fun x => by cases it <;> first | rfl | cases h.2)
    · exact ps_while B.pas (hT _) hS
    · refine ifS fun h => ?_
      simp only [okG, Bool.and_eq_true, beq_iff_eq] at h
      obtain ⟨h1, h2, h3⟩ := okName_ok h.2.1.1
      exact ps_raise (hc h.1) tk (pmk_any (gl_of B.toFits h.2.1.2) h1 h3 (rdA_ok hE h.2.2) h.2.2)
    · refine ifS fun h => ?_
      simp only [Bool.and_eq_true, beq_iff_eq] at h
      rename_i body x np m b su p' pos
      unfold sBy
      split
      · rename_i i ei
        refine ⟨fun pins s σ H D I hw => ?_⟩
        obtain ⟨c, nv, hw⟩ := hw
        have km : X.env.kindOf m = some .local := by
          show X.env.scope.names.lookup m = _
          rw [B.s]
          have z := h.2.2
          unfold kd at z
          split at z <;> simp_all
        exact (ps_try_as (tb := fun V D σ H => ∀ (pn : List (Addr × Obj)) (xe : Value → Shared → Prop), Takes (X.tr pn xe) V → rdSs (rdS N sc n (X.tr pn xe) V true) body D σ H) B.stk B.frm (by rw [B.n]; exact B.nd) (by rw [B.n]; exact slotOf_ok ei) km (names_of B.toFits h.2.1 nv) tk
          (fun V pn xe tk2 po => ⟨fun pins s σ H D I hw => (rdSs_ok (rdS_ok n (B.tr po) (fun _ => hc h.1) tk2)).run pins s σ H D I (hw pn xe tk2)⟩)
          (fun a oe cls d pn hz hf => ⟨fun pins s σ H D I hw => (hSu (b :: su) a oe pn).run pins s σ H D I (hw oe pn hz hf)⟩)).run pins s σ H D I hw
      · exact ps_never
    · split
      · rename_i l el
        refine ifS fun h => ?_
        rw [Bool.and_eq_true] at h
        refine ⟨fun pins s σ H D I hw => ?_⟩
        obtain ⟨cs, nm, hw⟩ := hw
        exact (ps_try_many (tb := fun V D σ H => ∀ (pn : List (Addr × Obj)) (xe : Value → Shared → Prop), Takes (X.tr pn xe) V → rdSs (rdS N sc n (X.tr pn xe) V true) _ D σ H) B.stk B.frm tk
          (fun V pn xe tk2 po => ⟨fun pins s σ H D I hw => (rdSs_ok (rdS_ok n (B.tr po) (fun _ => hc h.1) tk2)).run pins s σ H D I (hw pn xe tk2)⟩)
          (hds_ok B.toFits (sus := fun su Y => rdSs (rdS N sc n Y W0 false) su) hSu el h.2 nm)).run pins s σ H D I hw
      · exact ps_never
    · exact ps_never
end
end Vc

namespace Vc
open PySem PySem.Spec PyProof.Rows L2

/-! ### the context of a body, as the proofs of readings see it -/
structure Ctx (P : Program) (w : World) (K : PySem.W.Frag) (mg : Str → Option Value) (base : Heap) (k : Nat) (X : Cx) (W : WX) : Prop where
  p : X.prog = P
  w : X.w = w
  K : X.K = K
  m : X.mg = mg
  b : X.base = base
  r : Room k X.A
  t : Takes X W
  c : X.calm = true
section
variable {P : Program} {w : World} {K : PySem.W.Frag} {mg : Str → Option Value} {base : Heap} {k j : Nat} {X : Cx} {W : WX}
theorem Ctx.tr (C : Ctx P w K mg base k X W) {pn : List (Addr × Obj)} {xe : Value → Shared → Prop} {V : WX} (t : Takes (X.tr pn xe) V) : Ctx P w K mg base k (X.tr pn xe) V := ⟨C.p, C.w, C.K, C.m, C.b, C.r, t, C.c⟩
theorem Ctx.mono (C : Ctx P w K mg base k X W) (h : j ≤ k) : Ctx P w K mg base j X W := ⟨C.p, C.w, C.K, C.m, C.b, C.r.mono h, C.t, C.c⟩
/-- a def of the text: what it promises -/
def FnS (P : Program) (w : World) (K : PySem.W.Frag) (mg : Str → Option Value) (base : Heap) (f : Addr) (k : Nat) (ps : List Str) (sp : Sp) : Prop :=
  ∃ fd, FnOk P w K mg base (L2.CX P w) k f fd ps sp ∧ Binds K fd ps []
theorem FnS.mono {f : Addr} {ps : List Str} {sp : Sp} (F : FnS P w K mg base f j ps sp) (h : j ≤ k) : FnS P w K mg base f k ps sp :=
  let ⟨fd, F1, b⟩ := F
  ⟨fd, F1.mono h, b⟩
/-- THE RULE for a def -/
theorem fn_ok {x qual : Str} {st : Stmt} {f : Addr} {fd : FuncData} {N ps : List Str} {sp : Sp} (F : Fun K x qual st f fd) (S : FnScope N ps (defScope st))
    (bn : ∀ (kV doc pm : Value) (an : Option Addr) (cdv ct : Value) (us : List Value), us.length = ps.length → bindArgs (PySem.W.fnOf x qual (defArgs st) (defBody st) (defScope st) .none kV doc pm an cdv ct) ⟨us, []⟩ = pure (ps.zip us))
    (len : ∀ vs H Q E, sp vs H Q E → vs.length = ps.length) (rd : Cx → WX → TS) (n : Nat)
    (hrd : ∀ X W, rdSs (rdS N (defScope st) n X W true) (defBody st) = rd X W)
    (hb : ∀ (X : Cx) (vs : List V) (H : Hp) (Q : VK) (E : XK), Ctx P w K mg base k X (fun cls d _ H => E cls d H) → sp vs H Q E → rd X (fun cls d _ H => E cls d H) { nx := fun _ H' => Q .non H', rt := Q } (start N vs) H) :
    FnS P w K mg base f (k + 1) ps sp := by
  refine ⟨fd, F.okX S len (fun cdv A outer s H vs Q E hr h => ?_), F.binds bn⟩
  refine ⟨_, rdSs_ok (rdS_ok (N := N) (sc := defScope st) n (cm := true) (W := fun cls d _ H => E cls d H) ⟨⟨rfl, rfl, S.nd, fun _ _ => rfl⟩, rfl, rfl, passes_of rfl⟩ (fun _ => rfl) (takes_of rfl rfl rfl rfl)), ?_⟩
  rw [hrd]
  exact hb _ vs H Q E ⟨rfl, rfl, rfl, rfl, rfl, hr, takes_of rfl rfl rfl rfl, rfl⟩ h

/-! ### what values do -/
variable {σ : L2.St} {H : Hp} {Q : VK} {x y : V}
theorem O2.of {f : Value → Value → Sem Value} {r : R2} (h : OpR X f r) (q : r x y H Q) : O2 X f x y σ H Q := fun pins s v u I rx ry => h pins s σ H x y v u Q I rx ry q
theorem O1.of {f : Value → Sem Value} {r : V → Hp → VK → Prop} (h : UnR X f r) (q : r x H Q) : O1 X f x σ H Q := fun pins s v I rx => h pins s σ H x v Q I rx q
theorem CV.of {f : Value} {r : List V → Hp → VK → Prop} {vs : List V} (h : CallR X f r) (q : r vs H Q) : CV X f vs σ H Q := fun pins s us I rv => h pins s σ H vs us Q I rv q
theorem CV.ofM {id : String} {r : V → List V → Hp → VK → Prop} {vs : List V} (h : MtM X id r) (q : r x vs H Q) : CV X (.builtin id) (x :: vs) σ H Q := fun pins s us I rv => by
  cases rv with
  | cons rx rr => exact h pins s σ H x vs _ _ Q I rx rr q
theorem Ix.of {r : R2} (h : IxR X r) (q : r x y H Q) : Ix X x y σ H Q := fun value slice pins s v u hs I rx ry => h value slice pins s σ H x y v u Q I rx ry q (by
  cases slice <;> first
    | rfl
    | cases hs)
theorem SetV.of {t : V → V → V → Hp → (Hp → Prop) → Prop} {o i v : V} {R : Hp → Prop} (h : PSet X t) (q : t o i v H R) : SetV X o i v σ H R := fun pins s ov iv u I r1 r2 r3 => h pins s σ H o i v ov iv u R I r1 r2 r3 q
theorem add_ii {i j : Int} (q : Q (.int (i + j)) H) : O2 X (binaryOp .Add) (.int i) (.int j) σ H Q := .of op_add ⟨i, j, rfl, rfl, q⟩
theorem sub_ii {i j : Int} (q : Q (.int (i - j)) H) : O2 X (binaryOp .Sub) (.int i) (.int j) σ H Q := .of op_sub ⟨i, j, rfl, rfl, q⟩
theorem mul_ii {i j : Int} (h : CMul i j) (q : Q (.int (i * j)) H) : O2 X (binaryOp .Mult) (.int i) (.int j) σ H Q := .of op_mul ⟨i, j, rfl, rfl, h, q⟩
theorem mulW_ii {i j : Int} (h : CMulW i j) (q : Q (.int (i * j)) H) : O2 X (binaryOp .Mult) (.int i) (.int j) σ H Q := .of op_mulW ⟨i, j, rfl, rfl, h, q⟩
theorem fmod_eq {i j : Int} (h : 0 < j) : i.fmod j = i % j := Int.fmod_eq_emod_of_nonneg i (Int.le_of_lt h)
theorem mod_ii {i j : Int} (h : 0 < j) (q : Q (.int (i % j)) H) : O2 X (binaryOp .Mod) (.int i) (.int j) σ H Q := .of op_modN ⟨i, j, rfl, rfl, by omega, by show Q (.int (i.fmod j)) H; rw [fmod_eq h]; exact q⟩
theorem div_ii {i j : Int} (h : 0 < j) (h2 : j.natAbs < 2 ^ 9000) (q : Q (.int (i / j)) H) : O2 X (binaryOp .FloorDiv) (.int i) (.int j) σ H Q :=
  .of op_fdivW ⟨i, j, rfl, rfl, wide_div h h2 (by decide) (by decide), q⟩
theorem pow_ii {i j : Int} (h : CPow i j) (q : Q (.int (i ^ j.toNat)) H) : O2 X (binaryOp .Pow) (.int i) (.int j) σ H Q := .of op_pow ⟨i, j, rfl, rfl, h, q⟩
theorem lt_ii {i j : Int} (q : Q (.bl (decide (i < j))) H) : O2 X (compareOp .Lt) (.int i) (.int j) σ H Q := .of op_lt ⟨i, j, rfl, rfl, q⟩
theorem le_ii {i j : Int} (q : Q (.bl (decide (i ≤ j))) H) : O2 X (compareOp .LtE) (.int i) (.int j) σ H Q := .of op_le ⟨i, j, rfl, rfl, q⟩
theorem gt_ii {i j : Int} (q : Q (.bl (decide (j < i))) H) : O2 X (compareOp .Gt) (.int i) (.int j) σ H Q := .of op_gt ⟨i, j, rfl, rfl, q⟩
theorem ge_ii {i j : Int} (q : Q (.bl (decide (j ≤ i))) H) : O2 X (compareOp .GtE) (.int i) (.int j) σ H Q := .of op_ge ⟨i, j, rfl, rfl, q⟩
theorem eq_sc (h : scal x y = true) (q : Q (.bl (decide (x = y))) H) : O2 X (compareOp .Eq) x y σ H Q := .of op_eq ⟨h, q⟩
theorem ne_sc (h : scal x y = true) (q : Q (.bl (!decide (x = y))) H) : O2 X (compareOp .NotEq) x y σ H Q := .of op_ne ⟨h, q⟩
theorem eq_ii {i j : Int} (q : Q (.bl (decide (i = j))) H) : O2 X (compareOp .Eq) (.int i) (.int j) σ H Q := eq_sc rfl (by
  have e : decide (V.int i = V.int j) = decide (i = j) := by simp
  rw [e]
  exact q)
theorem ne_ii {i j : Int} (q : Q (.bl (!decide (i = j))) H) : O2 X (compareOp .NotEq) (.int i) (.int j) σ H Q := ne_sc rfl (by
  have e : decide (V.int i = V.int j) = decide (i = j) := by simp
  rw [e]
  exact q)
theorem isN (q : Q (.bl (decide (x = .non))) H) : O2 X (compareOp .Is) x .non σ H Q := .of op_isN ⟨rfl, q⟩
theorem notN (q : Q (.bl (!decide (x = .non))) H) : O2 X (compareOp .IsNot) x .non σ H Q := .of op_notN ⟨rfl, q⟩
theorem neg_i {i : Int} (q : Q (.int (-i)) H) : O1 X (unaryOp .USub) (.int i) σ H Q := .of un_neg ⟨i, rfl, q⟩
theorem tru_v {R : Bool → Hp → Prop} {b : Bool} (h : TruV X.K x H b) (q : R b H) : Tr X x σ H R := fun pins s v I rx => tru_ok pins s σ H x v R I rx ⟨b, h, q⟩
theorem tru_b {R : Bool → Hp → Prop} {b : Bool} (q : R b H) : Tr X (.bl b) σ H R := tru_v rfl q
theorem not_b {b : Bool} (q : Q (.bl (!b)) H) : O1 X (unaryOp .Not) (.bl b) σ H Q := fun pins s v I rx => by
  cases rx
  exact not_of (wpAny_truthy_bool ⟨.bl (!b), H, I, rfl, q⟩)
/-- a def called -/
theorem cv_fn {f : Addr} {ps : List Str} {sp : Sp} {vs : List V} (C : Ctx P w K mg base k X W) (F : FnS P w K mg base f j ps sp) (hj : j ≤ k) (q : sp vs H Q (WE W σ)) : CV X (.ref f) vs σ H Q := by
  obtain ⟨fd, F, b⟩ := F
  obtain ⟨rfl, rfl, rfl, rfl, rfl, hr, tk, _⟩ := C
  exact fun pins s us I rv => run_fnS (E := WE W) F (hr.mono hj) b (passAt tk σ) I rv q
/-- an instance made by its __init__ -/
theorem cv_new {Cc fi : Addr} {ps : List Str} {sp : Sp} {vs : List V} (C : Ctx P w K mg base k X W) (M : Mk K Cc fi) (F : FnS P w K mg base fi j ps sp) (hj : j + 1 ≤ k)
    (q : ∀ x dx, H x = none → H dx = none → dx ≠ x → sp (.ref x :: vs) (upd (upd H dx (.own x)) x (.ins Cc dx [])) (fun v H2 => v = .non ∧ Q (.ref x) H2) (WE W σ)) : CV X (.ref Cc) vs σ H Q := by
  obtain ⟨fd, F, hb⟩ := F
  obtain ⟨rfl, rfl, rfl, rfl, rfl, hr, tk, _⟩ := C
  intro pins s us I rv
  have n0 : H s.heap.objs.size = none := I.hok.fresh (Nat.le_refl _)
  have n1 : H (s.heap.objs.size + 1) = none := I.hok.fresh (Nat.le_succ _)
  have hq := q _ _ n1 n0 (Nat.ne_of_lt (Nat.lt_succ_self _))
  have J := Inv.made (C := Cc) I
  have rv2 : Vals (V.ref (s.heap.objs.size + 1) :: vs) (Value.ref (s.heap.objs.size + 1) :: us) := .cons rfl rv
  have hl : (Value.ref (s.heap.objs.size + 1) :: us).length = ps.length := by
    rw [← rv2.length]
    exact F.len _ _ _ _ hq
  have bd := hb _ (Value.ref (s.heap.objs.size + 1) :: us) J.kIn (by rw [List.append_nil]; exact hl)
  rw [List.append_nil] at bd
  have hr2 : Room (j + 1) X.A := hr.mono hj
  refine wpAny_call (make_map (f := fi) I.kIn M.makes M.init (beq_iff_eq.mp M.fn) ?_)
  refine codeAny_mono (F.run _ X.stack _ _ ⟨Value.ref (s.heap.objs.size + 1) :: us, []⟩ _ _ _ (WE W σ) (hr2.make Cc us []) (J.env0.make Cc us []) bd rv2 hq) fun r s' hr' => ?_
  cases r with
  | error e => exact passAt tk σ pins _ _ e s' J hr'
  | ok fl =>
    cases fl with
    | ret u =>
      obtain ⟨v, H', J3, rv3, ev, q3⟩ := J.after hr'
      subst ev
      exact ⟨rv3, ⟨V.ref (s.heap.objs.size + 1), H', J3, rfl, q3⟩⟩
    | next => exact hr'.elim
    | brk => exact hr'.elim
    | cont => exact hr'.elim
/-- an attribute of an instance -/
theorem atr_fld {a Cc dx : Addr} {fs : List (Str × V)} {f : Str} {v : V} (C : Ctx P w K mg base k X W) (h : H a = some (.ins Cc dx fs)) (c : Cls K Cc) (n : NoAttr K Cc f) (l : fs.lookup f = some v) (q : Q v H) : O1 X (fun v => getAttr v f true) (.ref a) σ H Q := by
  obtain ⟨rfl, rfl, rfl, rfl, rfl, hr, tk, _⟩ := C
  intro pins s u I rx
  cases rx
  exact getattr_ok I h c n l fun u' s2 I2 ru => ⟨v, H, I2, ru, q⟩
/-- a property -/
theorem atr_prop {a Cc dx p g : Addr} {fs : List (Str × V)} {f : Str} {ps : List Str} {sp : Sp} (C : Ctx P w K mg base k X W) (h : H a = some (.ins Cc dx fs)) (c : Cls K Cc) (pr : PropOf K Cc f p g) (F : FnS P w K mg base g j ps sp) (hj : j + 1 ≤ k)
    (q : sp [.ref a] H Q E0) : O1 X (fun v => getAttr v f true) (.ref a) σ H Q := by
  obtain ⟨fd, F, hb⟩ := F
  obtain ⟨rfl, rfl, rfl, rfl, rfl, hr, tk, _⟩ := C
  intro pins s u I rx
  cases rx
  exact getprop_ok I h c pr F (hr.mono hj) hb .nil passL q
theorem set_fld {a Cc dx : Addr} {fs : List (Str × V)} {f : Str} {v : V} {R : Hp → Prop} (C : Ctx P w K mg base k X W) (h : H a = some (.ins Cc dx fs)) (c : Cls K Cc) (n : NoAttr K Cc f) (hl : fs.length < 1000) (q : R (upd H a (.ins Cc dx (putF f v fs)))) : SetA X f (.ref a) v σ H R := by
  obtain ⟨rfl, rfl, rfl, rfl, rfl, hr, tk, _⟩ := C
  intro pins s ov u I rx rv
  cases rx
  exact setattr_ok I h c n hl rv fun s3 I3 => ⟨_, I3, q⟩
theorem ix_l {p : Addr} {xs : List V} {i : Int} {v : V} (C : Ctx P w K mg base k X W) (h : SqL K H p xs) (e : atI xs i = some v) (q : Q v H) : Ix X (.ref p) (.int i) σ H Q := by
  obtain ⟨rfl, rfl, rfl, rfl, rfl, hr, tk, _⟩ := C
  exact .of ix_list ⟨p, xs, i, v, rfl, rfl, h, e, q⟩
theorem ix_t {p : Addr} {xs : List V} {i : Int} {v : V} (C : Ctx P w K mg base k X W) (h : SqT K H p xs) (e : atI xs i = some v) (q : Q v H) : Ix X (.ref p) (.int i) σ H Q := by
  obtain ⟨rfl, rfl, rfl, rfl, rfl, hr, tk, _⟩ := C
  exact .of ix_tup ⟨p, xs, i, v, rfl, rfl, h, e, q⟩
theorem set_l {p : Addr} {xs : List V} {i : Int} {n : Nat} {v : V} {R : Hp → Prop} (h : H p = some (.lst xs)) (e : ixN xs.length i = some n) (q : R (upd H p (.lst (xs.set n v)))) : SetV X (.ref p) (.int i) v σ H R :=
  .of set_list ⟨p, xs, i, n, rfl, rfl, h, e, q⟩
theorem len_l {p : Addr} {xs : List V} (C : Ctx P w K mg base k X W) (h : SqL K H p xs) (q : Q (.int xs.length) H) : CV X (.builtin "len") [.ref p] σ H Q := by
  obtain ⟨rfl, rfl, rfl, rfl, rfl, hr, tk, _⟩ := C
  exact .of call_len_seq ⟨p, xs, rfl, .inl h, q⟩
theorem max_2 {i j : Int} (C : Ctx P w K mg base k X W) (q : Q (.int (if j > i then j else i)) H) : CV X (.builtin "max") [.int i, .int j] σ H Q := .of (call_max2 C.c) ⟨i, j, rfl, q⟩
theorem min_2 {i j : Int} (C : Ctx P w K mg base k X W) (q : Q (.int (if j < i then j else i)) H) : CV X (.builtin "min") [.int i, .int j] σ H Q := .of (call_min2 C.c) ⟨i, j, rfl, q⟩
theorem int_b {b : Bool} (q : Q (.int (if b then 1 else 0)) H) : CV X (.type "int") [.bl b] σ H Q := .of call_int1 (.inr ⟨b, rfl, q⟩)
/-- a loop over a list, a tuple -/
theorem it_l {p : Addr} {xs : List V} {R : It → Hp → Prop} (C : Ctx P w K mg base k X W) (h : SqL K H p xs) (q : R (Itl K p) H) : IterV X (.ref p) σ H R := by
  obtain ⟨rfl, rfl, rfl, rfl, rfl, hr, tk, _⟩ := C
  intro tg pins s v I rx
  cases rx
  obtain ⟨its, rv, pl, hz⟩ := I.list h
  refine wpAny_pyIter_list pl.isList ?_
  refine ⟨s.heap.objs.size, [s.heap.objs.size], _, _, H, rfl, I.kept (t' := s.toks) fun b o e => Heap.get?_push_of_some _ e, turn_list p _, ⟨_, Heap.get?_push_size _ rfl, rfl, rfl⟩, fun b hb => ?_, q⟩
  obtain rfl : b = s.heap.objs.size := by simpa using hb
  exact I.fpOk (Nat.le_refl _) (I.hok.fresh (Nat.le_refl _))
theorem it_t {p : Addr} {xs : List V} {R : It → Hp → Prop} (C : Ctx P w K mg base k X W) (h : SqT K H p xs) (q : R (Itt K p) H) : IterV X (.ref p) σ H R := by
  obtain ⟨rfl, rfl, rfl, rfl, rfl, hr, tk, _⟩ := C
  intro tg pins s v I rx
  cases rx
  obtain ⟨its, rv, pl, hz⟩ := I.tuple h
  refine wpAny_pyIter_tuple (show s.heap.IsTuple p its.toArray from pl) ?_
  refine ⟨s.heap.objs.size, [s.heap.objs.size], _, _, H, rfl, I.kept (t' := s.toks) fun b o e => Heap.get?_push_of_some _ e, turn_tuple p _, ⟨_, Heap.get?_push_size _ rfl, rfl, rfl⟩, fun b hb => ?_, q⟩
  obtain rfl : b = s.heap.objs.size := by simpa using hb
  exact I.fpOk (Nat.le_refl _) (I.hok.fresh (Nat.le_refl _))
/-- isinstance with one class -/
theorem isi {v c : V} {t u : Value} {b : Bool} (C : Ctx P w K mg base k X W) (hc : ClsV c u) (ty : TyX K H v t) (e : PySem.W.kitOne K t u = some b) (q : Q (.bl b) H) : CV X (.builtin "isinstance") [v, c] σ H Q := by
  obtain ⟨rfl, rfl, rfl, rfl, rfl, hr, tk, _⟩ := C
  exact .of call_isi ⟨v, c, t, u, b, rfl, hc, ty, e, q⟩
/-- an own exception without own __init__, of one text -/
theorem mk_own {B newId initId : String} {bmB : List Value} {Cc : Addr} {m : Str} {R : XK} (C : Ctx P w K mg base k X W) (F : ExcBaseFacts B newId initId bmB) (e : PySem.W.excIn K Cc bmB newId = true)
    (h1 : PySem.W.subIn K (.ref Cc) (.type "BaseException") = some true) (h2 : PySem.W.typeIn K (.ref Cc) = some (.type "type")) (q : R (.ref Cc) none H) : MkV X (.ref Cc) [.str m] σ H R := by
  obtain ⟨rfl, rfl, rfl, rfl, rfl, hr, tk, _⟩ := C
  intro pins s us I rv
  obtain ⟨u, rfl, ru⟩ := rv.one
  obtain ⟨bm, N, nm, qn, bs, hdct, sn, sub, ab, col, dd, k0, k1, k2, k3, k5, mN, hC, hN, hni, T⟩ := exc_obj I.kIn e
  refine wpAny_call_exc_subT F T hC hN hni (fun h' e hm => ?_) (by show 1 ≤ sizeLine; rw [sizeLine_eq]; omega)
  exact mk_of I hm (raises_own h1 h2) q (I.hok.gone hm.new)
end
end Vc

namespace Vc
open PySem PySem.Spec PyProof.Rows L2

/-! ### what the top has written, looked at by the head -/
abbrev Fact : Type := PySem.W.Frag → Bool
structure DV where
  at_ : PySem.W.Frag → Addr
  name : Str
  qual : Str
  st : Stmt
def fnAt (K : PySem.W.Frag) (a : Addr) : He.FnV := match K.lookup a with
  | some ⟨_, _, .func fd, _⟩ => some (fd.name, fd.qualname, fd.params, fd.body, fd.scope, fd.globals, fd.closure, fd.defaults, fd.builtins)
  | _ => none
def DV.val (d : DV) : He.FnV := some (d.name, d.qual, defArgs d.st, .stmts (defBody d.st), defScope d.st, mainGlobals, [], .none, builtinsNs)
def DV.ok (K : PySem.W.Frag) (d : DV) : Bool := PySem.W.keepIn K (.ref (d.at_ K)) && (match K.lookup (d.at_ K) with
  | some ⟨_, _, .func fd, _⟩ => PySem.W.codeIn K fd.code d.qual
  | _ => false)
theorem DV.fn {K : PySem.W.Frag} {d : DV} (e : fnAt K (d.at_ K) = d.val) (c : d.ok K = true) : ∃ fd, Fun K d.name d.qual d.st (d.at_ K) fd := by
  unfold DV.ok at c
  obtain ⟨kp, c2⟩ := He.ba c
  unfold fnAt at e
  cases q : K.lookup (d.at_ K) with
  | none =>
    rw [q] at c2
    cases c2
  | some o =>
    obtain ⟨oc, od, dt, osl⟩ := o
    rw [q] at c2 e
    cases dt with
    | func fd =>
      obtain ⟨n1, n2, n3, n4, n5, n6, n7, n8, n9, n10, n11, n12, n13, n14, n15⟩ := fd
      have e2 : (some (n1, n2, n3, n4, n5, n6, n7, n8, n15) : He.FnV) = some (d.name, d.qual, defArgs d.st, .stmts (defBody d.st), defScope d.st, mainGlobals, [], .none, builtinsNs) := e
      simp only [Option.some.injEq, Prod.mk.injEq] at e2
      obtain ⟨h1, h2, h3, h4, h5, h6, h7, h8, h9⟩ := e2
      subst h1 h2 h3 h4 h5 h6 h7 h8 h9
      exact ⟨_, fun_mk q c2 kp⟩
    | _ => cases c2
abbrev AlV : Type := Bool × List He.FnV
def obsV (fa : List Fact) (fn : List DV) (K : PySem.W.Frag) : AlV := ((fa.all fun f => f K) && fn.all fun d => d.ok K, fn.map fun d => fnAt K (d.at_ K))
def valV (fn : List DV) : AlV := (true, fn.map DV.val)
def SaysV (fa : List Fact) (fn : List DV) (K : PySem.W.Frag) : Prop := obsV fa fn K = valV fn
def obsVG (n : Nat) (fa : List Fact) (fn : List DV) (g : Addr → Option Obj) : AlV := obsV fa fn (He.frG g (He.asG g n))
def hookV (n : Nat) (fa : List Fact) (fn : List DV) : PySem.W.Hook where
  α := AlV
  obs := fun s => obsVG n fa fn s.heap.get?
  val := fun _ => valV fn
  says := fun _ h => ∃ K : PySem.W.Frag, K.In h ∧ SaysV fa fn K
  of := fun _ _ e => ⟨_, He.frG_in, e⟩
  keeps := fun _ _ _ ⟨K, hK, c⟩ k => ⟨K, PySem.W.Frag.In.keeps hK k, c⟩
theorem obsVG_eq {n : Nat} {fa : List Fact} {fn : List DV} {g : Addr → Option Obj} {s : Shared} (h : ∀ a, g a = s.heap.get? a) : obsVG n fa fn g = (hookV n fa fn).obs s := by
  have e : g = s.heap.get? := funext h
  rw [e] <;> rfl
section
variable {fa : List Fact} {fn : List DV} {K : PySem.W.Frag}
theorem SaysV.fact (c : SaysV fa fn K) (i : Nat) {f : Fact} (h : fa[i]? = some f := by rfl) : f K = true := by
  have c1 := (He.ba (show ((fa.all fun f => f K) && fn.all fun d => d.ok K) = true from congrArg (fun z : AlV => z.1) c)).1
  exact List.all_eq_true.mp c1 f (List.mem_of_getElem? h)
theorem SaysV.def_ (c : SaysV fa fn K) (i : Nat) {d : DV} (h : fn[i]? = some d := by rfl) : ∃ fd, Fun K d.name d.qual d.st (d.at_ K) fd := by
  have c2 := (He.ba (show ((fa.all fun f => f K) && fn.all fun d => d.ok K) = true from congrArg (fun z : AlV => z.1) c)).2
  have e : fn.map (fun d => fnAt K (d.at_ K)) = fn.map DV.val := congrArg (fun z : AlV => z.2) c
  have e2 : (fn.map fun d => fnAt K (d.at_ K))[i]? = (fn.map DV.val)[i]? := by rw [e]
  rw [List.getElem?_map, List.getElem?_map, h] at e2
  exact DV.fn (Option.some.inj e2) (List.all_eq_true.mp c2 d (List.mem_of_getElem? h))
end
/-- the facts with the module's names -/
structure Txt (fa : List Fact) (fn : List DV) (K : PySem.W.Frag) (mg : Str → Option Value) : Prop where
  c : SaysV fa fn K
  g : ∀ (x : Str) (v : Value), PySem.W.nsIn K mainGlobals x = some (some v) → mg x = some v
  n : ∀ x : Str, PySem.W.nsIn K mainGlobals x = some none → mg x = none

/-! ### the kinds of facts -/
def fGlo (x : Str) : Fact := fun K => He.Fa.ok K (.glo x)
def fFree (x : Str) : Fact := fun K => He.Fa.ok K (.free x)
def fInt (x : Str) (i : Int) : Fact := fun K => He.Fa.ok K (.int x i)
def fCls (x : Str) : Fact := fun K => He.Fa.ok K (.cls x)
def fNoat (x f : Str) : Fact := fun K => He.Fa.ok K (.noat x f)
def fMeth (x m : Str) : Fact := fun K => He.Fa.ok K (.meth x m)
def fMkr (x : Str) : Fact := fun K => He.Fa.ok K (.mkr x)
def fKeep (x : Str) : Fact := fun K => He.Fa.ok K (.keep x)
/-- an exception's class over a built-in one -/
def fExc (x : Str) (bm : List Value) (newId : String) : Fact := fun K => PySem.W.excIn K (He.ga K x) bm newId && (PySem.W.keepIn K (.ref (He.ga K x)) && (decide (PySem.W.subIn K (.ref (He.ga K x)) (.type "BaseException") = some true) && decide (PySem.W.typeIn K (.ref (He.ga K x)) = some (.type "type"))))
/-- an error of the class x, against except y -/
def fExm (x y : Str) (b : Bool) : Fact := fun K => He.Fa.ok K (.exm x y b)
/-- isinstance of an instance of x and the class y -/
def fKit (x y : Str) (b : Bool) : Fact := fun K => decide (PySem.W.kitOne K (.ref (He.ga K x)) (.ref (He.ga K y)) = some b)
/-- isinstance of a value of the built-in type t and the class y -/
def fKitT (t : String) (y : Str) (b : Bool) : Fact := fun K => decide (PySem.W.kitOne K (.type t) (.ref (He.ga K y)) = some b)
/-- isinstance of an instance of x and a built-in type -/
def fKitO (x : Str) (t : String) (b : Bool) : Fact := fun K => decide (PySem.W.kitOne K (.ref (He.ga K x)) (.type t) = some b)
/-- what isinstance asks of x's instances -/
def fIns (x : Str) : Fact := fun K => decide (PySem.W.findIn K (.ref (He.ga K x)) "__class__" = some (some (.builtin "object.__class__"))) && (decide (PySem.W.specialIn K (.builtin "object.__class__") "__get__" = some (some (.builtin "getset_descriptor.__get__"))) &&
  (decide (PySem.W.takesIn K (.builtin "object.__class__") = some true) && decide (PySem.W.mroIn K (He.ga K x) (.type "object") = some true)))
/-- a caught error of the class x, looked at by isinstance -/
def fExcC (x : Str) : Fact := fun K => decide (PySem.W.findIn K (.ref (He.ga K x)) "__getattribute__" = some (some (.builtin "BaseException.__getattribute__"))) && (decide (PySem.W.findIn K (.ref (He.ga K x)) "__getattr__" = some none) && (decide (PySem.W.subIn K (.ref (He.ga K x)) (.type "BaseException") = some true) && (PySem.W.hasDictIn K (He.ga K x) &&
  fIns x K)))
/-- the class has object's != -/
def fNe (x : Str) : Fact := fun K => decide (PySem.W.findIn K (.ref (He.ga K x)) "__ne__" = some (some (.builtin "object.__ne__"))) && decide (PySem.W.subIn K (.ref (He.ga K x)) (.type "object") = some true)
/-- the built-in type t is no subclass of x; nor is the class y -/
def fNsub (t : String) (x : Str) : Fact := fun K => decide (PySem.W.subIn K (.type t) (.ref (He.ga K x)) = some false)
def fNsubC (y x : Str) : Fact := fun K => decide (PySem.W.subIn K (.ref (He.ga K y)) (.ref (He.ga K x)) = some false)
/-- the getter of a property -/
def pga (K : PySem.W.Frag) (x f : Str) : Addr := match PySem.W.recIn K (He.ma K (He.ga K x) f) "property" with
  | some (.ref g :: _) => g
  | _ => 0
def fProp (x f : Str) : Fact := fun K => decide (PySem.W.findIn K (.ref (He.ga K x)) f = some (some (.ref (He.ma K (He.ga K x) f)))) && (decide (PySem.W.specialIn K (.ref (He.ma K (He.ga K x) f)) "__get__" = some (some (.builtin "property.__get__"))) &&
  (decide (PySem.W.takesIn K (.ref (He.ma K (He.ga K x) f)) = some true) && (match PySem.W.recIn K (He.ma K (He.ga K x) f) "property" with
    | some (.ref _ :: _) => true
    | _ => false)))
section
variable {fa : List Fact} {fn : List DV} {K : PySem.W.Frag} {mg : Str → Option Value}
theorem Txt.glo (T : Txt fa fn K mg) {x : Str} (h : fGlo x K = true) : mg x = some (.ref (He.ga K x)) := T.g _ _ (He.eqO_ok h)
theorem Txt.free (T : Txt fa fn K mg) {x : Str} (h : fFree x K = true) : mg x = none := T.n _ (He.eqO_ok h)
theorem Txt.int (T : Txt fa fn K mg) {x : Str} {i : Int} (h : fInt x i K = true) : ∃ t, mg x = some (.int i t) := by
  have h2 : (match PySem.W.nsIn K mainGlobals x with
    | some (some (.int j _)) => decide (j = i)
    | _ => false) = true := h
  split at h2
  · rename_i j t e
    obtain rfl := of_decide_eq_true h2
    exact ⟨t, T.g _ _ e⟩
  · cases h2
theorem cls_of {x : Str} (h : fCls x K = true) : Cls K (He.ga K x) := He.cls_ok h
theorem noat_of {x f : Str} (h : fNoat x f K = true) : NoAttr K (He.ga K x) f := He.noat_ok h
theorem meth_of {x m : Str} (h : fMeth x m K = true) : Meth K (He.ga K x) m (He.ma K (He.ga K x) m) := He.meth_ok h
theorem mkr_of {x : Str} (h : fMkr x K = true) : Mk K (He.ga K x) (He.ma K (He.ga K x) "__init__") := He.mkr_ok h
theorem exm_of' {x y : Str} {b : Bool} (h : fExm x y b K = true) : PySem.W.exmOne K (.ref (He.ga K x)) (.ref (He.ga K y)) = some b := He.exm_ok h
theorem kit_of' {x y : Str} {b : Bool} (h : fKit x y b K = true) : PySem.W.kitOne K (.ref (He.ga K x)) (.ref (He.ga K y)) = some b := of_decide_eq_true h
theorem kitT_of {t : String} {y : Str} {b : Bool} (h : fKitT t y b K = true) : PySem.W.kitOne K (.type t) (.ref (He.ga K y)) = some b := of_decide_eq_true h
theorem kitO_of {x : Str} {t : String} {b : Bool} (h : fKitO x t b K = true) : PySem.W.kitOne K (.ref (He.ga K x)) (.type t) = some b := of_decide_eq_true h
/-- an exception's class: its chain, that it stands, that it may be raised -/
structure ExcF (K : PySem.W.Frag) (C : Addr) (bm : List Value) (newId : String) : Prop where
  i : PySem.W.excIn K C bm newId = true
  k : PySem.W.keepIn K (.ref C) = true
  s : PySem.W.subIn K (.ref C) (.type "BaseException") = some true
  t : PySem.W.typeIn K (.ref C) = some (.type "type")
theorem exc_of {x : Str} {bm : List Value} {newId : String} (h : fExc x bm newId K = true) : ExcF K (He.ga K x) bm newId := by
  unfold fExc at h
  obtain ⟨c1, c⟩ := He.ba h
  obtain ⟨c2, c⟩ := He.ba c
  obtain ⟨c3, c4⟩ := He.ba c
  exact ⟨c1, c2, of_decide_eq_true c3, of_decide_eq_true c4⟩
theorem ne_of' {x : Str} (h : fNe x K = true) : PySem.W.findIn K (.ref (He.ga K x)) "__ne__" = some (some (.builtin "object.__ne__")) ∧ PySem.W.subIn K (.ref (He.ga K x)) (.type "object") = some true := by
  unfold fNe at h
  obtain ⟨c1, c2⟩ := He.ba h
  exact ⟨of_decide_eq_true c1, of_decide_eq_true c2⟩
theorem nsub_of {t : String} {x : Str} (h : fNsub t x K = true) : PySem.W.notFirst K (He.ga K x) (.type t) = true := by
  have e : PySem.W.subIn K (.type t) (.ref (He.ga K x)) = some false := of_decide_eq_true h
  unfold PySem.W.notFirst
  rw [e]
  simp
theorem nsubC_of {y x : Str} (h : fNsubC y x K = true) : PySem.W.notFirst K (He.ga K x) (.ref (He.ga K y)) = true := by
  have e : PySem.W.subIn K (.ref (He.ga K y)) (.ref (He.ga K x)) = some false := of_decide_eq_true h
  unfold PySem.W.notFirst
  rw [e]
  simp
theorem nf_self {C : Addr} : PySem.W.notFirst K C (.ref C) = true := by
  unfold PySem.W.notFirst
  simp
structure InsF (K : PySem.W.Frag) (C : Addr) : Prop where
  a : PySem.W.findIn K (.ref C) "__class__" = some (some (.builtin "object.__class__"))
  n : PySem.W.specialIn K (.builtin "object.__class__") "__get__" = some (some (.builtin "getset_descriptor.__get__"))
  t : PySem.W.takesIn K (.builtin "object.__class__") = some true
  m : PySem.W.mroIn K C (.type "object") = some true
theorem ins_of {x : Str} (h : fIns x K = true) : InsF K (He.ga K x) := by
  unfold fIns at h
  obtain ⟨c1, c⟩ := He.ba h
  obtain ⟨c2, c⟩ := He.ba c
  obtain ⟨c3, c4⟩ := He.ba c
  exact ⟨of_decide_eq_true c1, of_decide_eq_true c2, of_decide_eq_true c3, of_decide_eq_true c4⟩
theorem excC_of {x : Str} (h : fExcC x K = true) : ExcC K (He.ga K x) := by
  unfold fExcC at h
  obtain ⟨c1, c⟩ := He.ba h
  obtain ⟨c2, c⟩ := He.ba c
  obtain ⟨c3, c⟩ := He.ba c
  obtain ⟨c4, c5⟩ := He.ba c
  have I := ins_of c5
  exact ⟨of_decide_eq_true c1, of_decide_eq_true c2, of_decide_eq_true c3, c4, I.a, I.n, I.t, I.m⟩
theorem InsF.ty {C a dx : Addr} {fs : List (Str × V)} {H : Hp} (I : InsF K C) (c : Cls K C) (h : H a = some (.ins C dx fs)) : TyX K H (.ref a) (.ref C) := .base (.ins h c I.a I.n I.t I.m)
theorem prop_of {x f : Str} (h : fProp x f K = true) : PropOf K (He.ga K x) f (He.ma K (He.ga K x) f) (pga K x f) := by
  unfold fProp at h
  obtain ⟨c1, c⟩ := He.ba h
  obtain ⟨c2, c⟩ := He.ba c
  obtain ⟨c3, c4⟩ := He.ba c
  refine ⟨of_decide_eq_true c1, of_decide_eq_true c2, of_decide_eq_true c3, ?_⟩
  split at c4
  · rename_i g r e
    refine ⟨r, ?_⟩
    unfold pga
    rw [e]
  · cases c4
end
end Vc

namespace Vc
open PySem PySem.Spec PyProof.Rows L2

/-! ### steps -/
section
variable {X : Cx} {W : WX} {σ : L2.St} {H : Hp} {Q : VK} {D : Ends} {ta tb tc te : TE} {t u : TS} {a b c : TT} {i j n : Nat} {x y v : V} {f : Str} {tA : TA} {R : List V → Hp → Prop} {B : Bool → Hp → Prop}
theorem s_var (h : σ[i]? = some (some v)) (q : Q v H) : tVar i σ H Q := ⟨v, h, q⟩
theorem s_c (q : Q v H) : tC v σ H Q := q
theorem s_bin {g : Value → Value → Sem Value} (q : ta σ H fun x H1 => tb σ H1 fun y H2 => O2 X g x y σ H2 Q) : tBin X g ta tb σ H Q := q
theorem s_uny {g : Value → Sem Value} (q : ta σ H fun x H1 => O1 X g x σ H1 Q) : tUny X g ta σ H Q := q
theorem s_atr (q : ta σ H fun x H1 => O1 X (fun v => getAttr v f true) x σ H1 Q) : tAtr X f ta σ H Q := q
theorem s_tru (q : ta σ H fun x H1 => Tr X x σ H1 B) : tTru X ta σ H B := q
theorem s_not (q : a σ H fun c H1 => B (!c) H1) : tNot a σ H B := q
theorem s_and (q : a σ H fun c H1 => if c = true then b σ H1 B else B false H1) : tAnd a b σ H B := q
theorem s_or (q : a σ H fun c H1 => if c = true then B true H1 else b σ H1 B) : tOr a b σ H B := q
theorem s_andE (q : ta σ H fun x H1 => Tr X x σ H1 fun c H2 => if c = true then tb σ H2 Q else Q x H2) : tAndE X ta tb σ H Q := q
theorem s_orE (q : ta σ H fun x H1 => Tr X x σ H1 fun c H2 => if c = true then Q x H2 else tb σ H2 Q) : tOrE X ta tb σ H Q := q
theorem s_ifx (q : a σ H fun c H1 => if c = true then ta σ H1 Q else tb σ H1 Q) : tIf a ta tb σ H Q := q
theorem s_ifT (q : a σ H fun k H1 => if k = true then b σ H1 B else c σ H1 B) : tIfT a b c σ H B := q
theorem s_test (q : ta σ H fun x H' => ∃ k, x = .bl k ∧ B k H') : tTest ta σ H B := q
theorem s_ch {g g' : Value → Value → Sem Value} (q : ta σ H fun x H1 => tb σ H1 fun y H2 => O2 X g x y σ H2 fun z H3 => ∃ k, z = .bl k ∧ (if k = true then tc σ H3 fun w' H4 => O2 X g' y w' σ H4 Q else Q (.bl false) H3)) : tCh X g g' ta tb tc σ H Q := q
theorem s_cons (q : te σ H fun x H1 => tA σ H1 fun xs H2 => R (x :: xs) H2) : tCons te tA σ H R := q
theorem s_nil (q : R [] H) : tNil σ H R := q
theorem s_tup (q : tA σ H fun xs H1 => xs.length ≤ sizeLine ∧ ∀ p, H1 p = none → Q (.ref p) (upd H1 p (.tup xs))) : tTup tA σ H Q := q
theorem s_lst (q : tA σ H fun xs H1 => xs.length ≤ sizeLine ∧ ∀ p, H1 p = none → Q (.ref p) (upd H1 p (.lst xs))) : tLst tA σ H Q := q
theorem s_ix (q : ta σ H fun x H1 => tb σ H1 fun y H2 => Ix X x y σ H2 Q) : tIx X ta tb σ H Q := q
theorem s_slc {tl th : TO} (q : te σ H fun x H1 => tl σ H1 fun l H2 => th σ H2 fun u H3 => Slc X x l u σ H3 Q) : tSlc X te tl th σ H Q := q
theorem s_nopart {R : Option Int → Hp → Prop} (q : R none H) : tNoPart σ H R := q
theorem s_part {R : Option Int → Hp → Prop} (q : te σ H fun x H1 => ∃ i, x = .int i ∧ R (some i) H1) : tPart te σ H R := q
theorem s_call {x : Str} {g : Value} (h : Cal X x g) (q : tA σ H fun vs H1 => CV X g vs σ H1 Q) : tCallG X x tA σ H Q := ⟨g, h, q⟩
theorem s_mth {m : Str} (q : te σ H fun x H1 => ∃ g, Mth X m x H1 g ∧ tA σ H1 fun vs H2 => CV X g (x :: vs) σ H2 Q) : tMth X m te tA σ H Q := q
theorem s_gloT {x : Str} {T : String} (h : Cal X x (.type T)) (q : Q (.ty T) H) : tGlo X x σ H Q := by
  cases h with
  | typ h b => exact .inr ⟨_, .ty T, h, b, rfl, q⟩
theorem s_gloR {x : Str} {g : Addr} (h : Cal X x (.ref g)) (q : Q (.ref g) H) : tGlo X x σ H Q := by
  cases h with
  | own h k => exact .inl ⟨_, .ref g, h, rfl, q⟩
theorem s_gloV {x : Str} {u : Value} (h : X.mg x = some u) (r : RelV v u) (q : Q v H) : tGlo X x σ H Q := .inl ⟨u, v, h, r, q⟩
theorem s_gloI {x : Str} {z : Int} (h : ∃ t, X.mg x = some (.int z t)) (q : Q (.int z) H) : tGlo X x σ H Q := by
  obtain ⟨t, h⟩ := h
  exact .inl ⟨_, .int z, h, ⟨t, rfl⟩, q⟩
theorem s_seq (q : t { D with nx := u D } σ H) : tSeq t u D σ H := q
theorem s_asg {g : TG} (q : te σ H fun x H1 => g x σ H1 D.nx) : tAsg te g D σ H := q
theorem s_gname {S : L2.St → Hp → Prop} (q : S (σ.set i (some v)) H) : gName i v σ H S := q
theorem s_gix {S : L2.St → Hp → Prop} (q : ta σ H fun o H1 => tb σ H1 fun i H2 => SetV X o i v σ H2 fun H3 => S σ H3) : gIx X ta tb v σ H S := q
theorem s_ret (q : te σ H D.rt) : tRet te D σ H := q
theorem s_retN (q : D.rt .non H) : tRetN D σ H := q
theorem s_ifS (q : a σ H fun b H1 => if b = true then t D σ H1 else u D σ H1) : tIfS a t u D σ H := q
theorem s_drop (q : te σ H fun _ H1 => D.nx σ H1) : tDrop te D σ H := q
theorem s_next (q : D.nx σ H) : tNext D σ H := q
theorem s_brk (q : D.bk σ H) : tBreak D σ H := q
theorem s_cont (q : D.ct σ H) : tCont D σ H := q
theorem s_par (q : tA σ H fun vs H1 => ∃ v w, vs = [v, w] ∧ D.nx ((σ.set i (some v)).set j (some w)) H1) : tPar i j tA D σ H := q
theorem s_satr (q : tb σ H fun y H1 => ta σ H1 fun x H2 => SetA X f x y σ H2 fun H3 => D.nx σ H3) : sAtr X f ta tb D σ H := q
theorem s_aug {op : Operator} (h : σ[i]? = some (some x)) (q : te σ H fun y H1 => O2 X (inplaceOp op) x y σ H1 fun z H2 => D.nx (σ.set i (some z)) H2) : sAug X op i te D σ H := ⟨x, h, q⟩
theorem s_augS {op : Operator} (q : ta σ H fun o H1 => tb σ H1 fun i H2 => O2 X getItem o i σ H2 fun x H3 => te σ H3 fun y H4 => O2 X (inplaceOp op) x y σ H4 fun z H5 => SetV X o i z σ H5 fun H6 => D.nx σ H6) : sAugS X op ta tb te D σ H := q
theorem s_rai {x : Str} {g : Value} (h : Cal X x g) (q : tA σ H fun vs H1 => MkV X g vs σ H1 fun cls d H' => W cls d σ H') : tRai X W x tA D σ H := ⟨g, h, q⟩
theorem s_ite {p : Prop} [Decidable p] {A B : Prop} (h1 : p → A) (h2 : ¬ p → B) : if decide p = true then A else B := by
  by_cases h : p
  · rw [if_pos (decide_eq_true h)]
    exact h1 h
  · rw [if_neg (by simpa using h)]
    exact h2 h
theorem s_iteN {p : Prop} [Decidable p] {A B : Prop} (h1 : ¬ p → A) (h2 : p → B) : if (!decide p) = true then A else B := by
  by_cases h : p
  · rw [if_neg (by simpa using h)]
    exact h2 h
  · rw [if_pos (by simpa using h)]
    exact h1 h
theorem nx_mk {n b c : L2.St → Hp → Prop} {r : VK} (q : n σ H) : Ends.nx { nx := n, rt := r, bk := b, ct := c } σ H := q
theorem ct_mk {n b c : L2.St → Hp → Prop} {r : VK} (q : c σ H) : Ends.ct { nx := n, rt := r, bk := b, ct := c } σ H := q
theorem bk_mk {n b c : L2.St → Hp → Prop} {r : VK} (q : b σ H) : Ends.bk { nx := n, rt := r, bk := b, ct := c } σ H := q
theorem rt_mk {n b c : L2.St → Hp → Prop} {r : VK} (q : r v H) : Ends.rt { nx := n, rt := r, bk := b, ct := c } v H := q
theorem s_nf {A B : Prop} (q : A) : if (!false) = true then A else B := iteT q
theorem s_nt {A B : Prop} (q : B) : if (!true) = true then A else B := iteF q
theorem s_iteB {k : Bool} {A B : Prop} (h1 : k = true → A) (h2 : k = false → B) : if k = true then A else B := by
  cases k with
  | true => exact h1 rfl
  | false => exact h2 rfl
theorem s_iteY {k : Bool} {A B : Prop} (h : k = true) (q : A) : if k = true then A else B := by
  rw [if_pos h]
  exact q
theorem s_iteZ {k : Bool} {A B : Prop} (h : k = false) (q : B) : if k = true then A else B := by
  rw [if_neg (by rw [h]; decide)]
  exact q
end
end Vc

namespace Vc
open PySem PySem.Spec PyProof.Rows L2

/-! ### == and != by an own __eq__ -/
section
variable {P : Program} {w : World} {K : PySem.W.Frag} {mg : Str → Option Value} {base : Heap} {k j : Nat} {X : Cx} {W : WX} {σ : L2.St} {H : Hp} {Q : VK} {y : V} {a Cc dx f : Addr} {fs : List (Str × V)} {ps : List Str} {sp : Sp} {t : Value}
/-- a method of an instance, called from within a built-in that stands in the body -/
theorem run_in {A : Around} {pins : List (Addr × Obj)} {s : Shared} {us : List Value} {vs : List V} (F : FnS X.prog X.w X.K X.mg X.base f j ps sp) (hr : Room j A) (hf : A.frames = some X.stack) (tk : Takes X W) (I : L2.Inv X pins σ H s) (rv : Vals vs us) (q : sp vs H Q (WE W σ)) :
    wpAny (model X.prog X.w) A (call (.ref f) us) (EP X pins σ Q) X.xe s := by
  obtain ⟨fd, F, hb⟩ := F
  have hl : us.length = ps.length := by
    rw [← rv.length]
    exact F.len _ _ _ _ q
  have b := hb s us I.kIn (by rw [List.append_nil]; exact hl)
  rw [List.append_nil] at b
  have e := I.env0
  have e0 : Env0 X.prog X.w X.K X.mg X.base A X.stack s H := ⟨hf, e.mod, e.bs, e.bsz, e.funs, e.frf, e.hok, e.bare⟩
  refine wpAny_call (codeAny_mono (F.run A X.stack s H ⟨us, []⟩ us vs Q (WE W σ) hr e0 b rv q) fun r s' hq => ?_)
  cases r with
  | error e => exact passAt tk σ pins H s e s' I hq
  | ok fl =>
    cases fl with
    | ret u => exact I.after hq
    | next => exact hq.elim
    | brk => exact hq.elim
    | cont => exact hq.elim
theorem eq_own (C : Ctx P w K mg base k X W) (h : H a = some (.ins Cc dx fs)) (c : Cls K Cc) (M : Meth K Cc "__eq__" f) (F : FnS P w K mg base f j ps sp) (hj : j ≤ k) (ty : TyX K H y t) (nf : PySem.W.notFirst K Cc t = true)
    (q : sp [.ref a, y] H Q (WE W σ)) : O2 X (compareOp .Eq) (.ref a) y σ H Q := by
  obtain ⟨rfl, rfl, rfl, rfl, rfl, hr, tk, _⟩ := C
  intro pins s v u I rx ry
  cases rx
  obtain ⟨mA, J, _⟩ := ins_get I.hok h
  obtain ⟨od, J, _⟩ := J.look
  obtain ⟨m, hF⟩ := I.fr
  obtain ⟨P1, Z, p1, _⟩ := kit_of I ry ty
  show wpAny (model X.prog X.w) X.A (richCompare .Eq (.ref a) u) _ _ _
  refine PySem.W.cmp_K (op := .Eq) (tb := t) (hr.mono hj).units0 hF I.ok.mod.kin J (Z.ty _ _ I.kIn p1) nf M.at_ M.fn ?_
  exact thn (run_in F (hr.mono hj) I.ok.frames tk I (.cons (show RelV (.ref a) (.ref a) from rfl) (.cons ry .nil)) q) fun r s' ⟨z, H', I', rz, q'⟩ => SlX.cmpback rz ⟨z, H', I', rz, q'⟩
theorem ifBound_B {M : Model} {A : Around} {E : Value → Shared → Prop} {K : PySem.W.Frag} {s : Shared} {x C : Addr} {ox : Obj} {od : Option Obj} {name : Str} {T id : String} {args : List Value} {Q : Option Value → Shared → Prop} (X : K.In s.heap) (I : PySem.W.InstAt s.heap x ox C od) (hs : PySem.W.findIn K (.ref C) name = some (some (.builtin id))) (S : Slot T name id)
    (h : wpAny M A (call (.builtin id) (.ref x :: args)) (fun v => Q (some v)) E s) : wpAny M A (callSpecialIfBound? (.ref x) name args) Q E s := by
  simp only [callSpecialIfBound?, bindSpecialIfBound?]
  refine wpAny_holding (wpAny_bind (wpAny_bind (wpAny_bind (I.type.here ((PySem.W.looks_findIn X hs).here ?_)))))
  simp only [S.bind]
  refine wpAny_bind (wpAny_askSetting (wpAny_ite ?_))
  have fin : wpAny M A (call (.builtin id) ([.ref x] ++ args) >>= fun v => pure (some v)) Q E s := wpAny_bind (wpAny_mono h (fun v s' h' => wpAny_pure h') fun _ _ h' => h')
  split
  · exact wpAny_bind (wpAny_pure (wpAny_pure fin))
  · exact wpAny_tryCatch (wpAny_bind (wpAny_pure (wpAny_pure fin)))
/-- != where the class has an own __eq__ and object's __ne__; its answers are truth values -/
theorem ne_own (C : Ctx P w K mg base k X W) (h : H a = some (.ins Cc dx fs)) (c : Cls K Cc) (M : Meth K Cc "__eq__" f) (F : FnS P w K mg base f j ps sp) (hj : j + 1 ≤ k) (ty : TyX K H y t) (nf : PySem.W.notFirst K Cc t = true)
    (hn : PySem.W.findIn K (.ref Cc) "__ne__" = some (some (.builtin "object.__ne__"))) (ho : PySem.W.subIn K (.ref Cc) (.type "object") = some true)
    (q : sp [.ref a, y] H (fun v H' => ∃ b, v = .bl b ∧ Q (.bl (!b)) H') (WE W σ)) : O2 X (compareOp .NotEq) (.ref a) y σ H Q := by
  obtain ⟨rfl, rfl, rfl, rfl, rfl, hr, tk, _⟩ := C
  intro pins s v u I rx ry
  cases rx
  obtain ⟨mA, J, _⟩ := ins_get I.hok h
  obtain ⟨od, J, _⟩ := J.look
  obtain ⟨P1, Z, p1, _⟩ := kit_of I ry ty
  have X0 := I.kIn
  have hr1 : Room (j + 1) X.A := hr.mono hj
  have hu := hr1.units0
  have hu1 : X.A.in1.units < cLine := hr1.in1.units0
  have S : Slot "tuple_iterator" (cmpInfo .NotEq).2.1 "object.__ne__" := PySem.F.slot_tuple_iterator_ne
  have one : wpAny (model X.prog X.w) X.A (tryCompare (.ref a) (cmpInfo .NotEq).2.1 u) (fun r s' => ∃ v, r = some v ∧ EP X pins σ Q v s') X.xe s := by
    unfold tryCompare
    refine wpAny_bind (ifBound_B X0 J hn S (wpAny_call (codeAny_call_builtin S.plain PySem.F.cmpEntry_ne ?_)))
    refine PySem.W.check_slot (owner := "object") (n := "__ne__") (by decide +kernel) (by decide +kernel) (J.type.andThen (PySem.W.looks_subIn X0 ho)) (PySem.F.cmpArgs_ne _ _) ?_
    unfold Builtin.«object.__ne__»
    refine wpAny_bind (wpAny_of_eq (a := ((Value.ref a : Value), [u])) (by first | rfl | (simp only [slotArgs]; rfl)) ?_)
    refine wpAny_bind (wpAny_cRoomFor hu1 ?_)
    refine wpAny_bind (PySem.W.ifBound_K X0 J M.at_ M.fn ?_)
    refine thn (run_in F hr1.in1 (by exact I.ok.frames) tk I (.cons (show RelV (.ref a) (.ref a) from rfl) (.cons ry .nil)) q) fun r s' ⟨z, H', I', rz, b, ez, q'⟩ => ?_
    subst ez
    cases rz
    refine wpAny_bind (wpAny_truthy_bool ?_)
    have fin : EP X pins σ Q (.bool (!b)) s' := ⟨.bl (!b), H', I', rfl, q'⟩
    exact wpAny_pure (wpAny_pure ⟨_, rfl, fin⟩)
  show wpAny (model X.prog X.w) X.A (richCompare .NotEq (.ref a) u) _ _ _
  unfold richCompare
  simp only [oneThing_ref]
  refine wpAny_holding (wpAny_bind (wpAny_cRoomFor hu ?_))
  refine wpAny_bind (J.type.here (wpAny_bind ((Z.ty _ _ I.kIn p1).here ?_)))
  split
  · rename_i qq
    have e : PySem.W.subIn X.K t (.ref Cc) = some false := by
      rcases Bool.or_eq_true_iff.mp nf with e | e
      · rw [beq_iff_eq.mp e] at qq
        simp at qq
      · exact beq_iff_eq.mp e
    refine wpAny_bind ((PySem.W.looks_subIn X0 e).here ?_)
    simp only [Bool.false_eq_true, if_false]
    refine wpAny_bind (thn one fun r s' z => ?_)
    obtain ⟨v, rfl, hq⟩ := z
    exact wpAny_pure hq
  · refine wpAny_bind (wpAny_pure ?_)
    simp only [Bool.false_eq_true, if_false]
    refine wpAny_bind (thn one fun r s' z => ?_)
    obtain ⟨v, rfl, hq⟩ := z
    exact wpAny_pure hq
end

/-! ### heaps -/
theorem same_upd {H : Hp} {p : Addr} {o : HO} (h : H p = none) : Same H (upd H p o) := fun b u e => by
  rw [upd_ne (ne_of_none e h)]
  exact e
/-- all that was tracked but what stands at l is as it was -/
def SameX (l : Addr) (H H' : Hp) : Prop := ∀ b o, b ≠ l → H b = some o → H' b = some o
theorem SameX.upd {l : Addr} {H : Hp} {o : HO} : SameX l H (L2.upd H l o) := fun b u n e => by
  rw [upd_ne n]
  exact e
theorem SameX.refl {l : Addr} {H : Hp} : SameX l H H := fun _ _ _ e => e
theorem SameX.trans {l : Addr} {H H1 H2 : Hp} (a : SameX l H H1) (b : SameX l H1 H2) : SameX l H H2 := fun c o n e => b c o n (a c o n e)
theorem Same_x {l : Addr} {H H' : Hp} (a : Same H H') : SameX l H H' := fun c o _ e => a c o e
theorem same_x {l : Addr} {H0 H H' : Hp} (a : Same H0 H) (n : H0 l = none) (b : SameX l H H') : Same H0 H' := fun c o e => b c o (ne_of_none e n) (a c o e)
theorem Same_ty {K : PySem.W.Frag} {H H' : Hp} {x : V} {t : Value} (s : Same H H') (h : TyX K H x t) : TyX K H' x t := by
  cases h with
  | base h =>
    cases h with
    | non => exact .base .non
    | bl x => exact .base (.bl x)
    | int i => exact .base (.int i)
    | str x => exact .base (.str x)
    | flt x => exact .base (.flt x)
    | lst e => exact .base (.lst (s _ _ e))
    | frz e => exact .base (.frz (s _ _ e))
    | tup e => exact .base (.tup (s _ _ e))
    | dK e => exact .base (.dK (s _ _ e))
    | dT e => exact .base (.dT (s _ _ e))
    | ins e c a n t m => exact .base (.ins (s _ _ e) c a n t m)
  | byt b => exact .byt b
  | set e => exact .set (s _ _ e)
  | kList e c => exact .kList e c
  | kTuple e c => exact .kTuple e c
  | kDict e c => exact .kDict e c
  | fTuple e => exact .fTuple (s _ _ e)
  | fDict e => exact .fDict (s _ _ e)

/-! ### loops -/
def Lp (J : It) (g : TG) (tb : TS) (D : Ends) (σ : L2.St) (H : Hp) : Prop := ∃ W : Nat → Nat → L2.St → Hp → Prop, (∃ m, W 0 m σ H) ∧ ∀ i m σ H, W i m σ H →
  (J.stop i H ∧ D.nx σ H) ∨ (J.go i H ∧ ∃ N : L2.St → Hp → Prop, (∀ σ' H', N σ' H' → ∃ m', m' < m ∧ W (i + 1) m' σ' H') ∧ ∀ x H', J.yld i H x H' → g x σ H' fun σ2 H2 => tb { D with nx := N, ct := N, bk := D.nx } σ2 H2)
section
variable {X : Cx} {g : TG} {tb : TS} {D : Ends} {σ : L2.St} {H : Hp} {te : TE} {ta : TA} {K : PySem.W.Frag}
theorem s_forL (q : te σ H fun x H1 => IterV X x σ H1 fun J H2 => Lp J g tb D σ H2) : tFor (iAny X te) g tb D σ H := q
theorem s_for1 (m : X.mg "range" = none) (q : ta σ H fun vs H1 => ∃ j : Int, vs = [.int j] ∧ -(2 ^ 62) ≤ j ∧ j < 2 ^ 62 ∧ Lp (Itr 0 j.toNat) g tb D σ H1) : tFor (iRg1 X ta) g tb D σ H := ⟨m, q⟩
theorem s_for2 (m : X.mg "range" = none) (q : ta σ H fun vs H1 => ∃ i j : Int, vs = [.int i, .int j] ∧ (-(2 ^ 62) ≤ i ∧ i < 2 ^ 62 ∧ -(2 ^ 62) ≤ j ∧ j < 2 ^ 62) ∧ Lp (Itr i (j - i).toNat) g tb D σ H1) : tFor (iRg2 X ta) g tb D σ H := ⟨m, q⟩
theorem lp_range {lo : Int} {n : Nat} (Pv : Nat → L2.St → Hp → Prop) (h0 : Pv 0 σ H)
    (hs : ∀ i σ H, i < n → Pv i σ H → g (.int (lo + i)) σ H fun σ2 H2 => tb { D with nx := Pv (i + 1), ct := Pv (i + 1), bk := D.nx } σ2 H2) (hd : ∀ σ H, Pv n σ H → D.nx σ H) : Lp (Itr lo n) g tb D σ H := for_range Pv h0 hs hd
theorem lp_list {a : Addr} {xs : List V} (Pv : Nat → L2.St → Hp → Prop) (h0 : Pv 0 σ H) (hl : ∀ i σ H, i ≤ xs.length → Pv i σ H → SqL K H a xs)
    (hs : ∀ i x σ H, xs[i]? = some x → Pv i σ H → g x σ H fun σ2 H2 => tb { D with nx := Pv (i + 1), ct := Pv (i + 1), bk := D.nx } σ2 H2) (hd : ∀ σ H, Pv xs.length σ H → D.nx σ H) : Lp (Itl K a) g tb D σ H := for_list Pv h0 hl hs hd
theorem lp_tup {a : Addr} {xs : List V} (Pv : Nat → L2.St → Hp → Prop) (h0 : Pv 0 σ H) (hl : ∀ i σ H, i ≤ xs.length → Pv i σ H → SqT K H a xs)
    (hs : ∀ i x σ H, xs[i]? = some x → Pv i σ H → g x σ H fun σ2 H2 => tb { D with nx := Pv (i + 1), ct := Pv (i + 1), bk := D.nx } σ2 H2) (hd : ∀ σ H, Pv xs.length σ H → D.nx σ H) : Lp (Itt K a) g tb D σ H := for_tup Pv h0 hl hs hd
theorem Cal.suite {x : Str} {f : Value} {a : Addr} {pn : List (Addr × Obj)} (h : Cal X x f) : Cal (X.suite a pn) x f := by
  cases h with
  | own h k => exact .own h k
  | blt h b => exact .blt h b
  | typ h b => exact .typ h b
theorem Cal.name {x : Str} {f : Addr} (h : Cal X x (.ref f)) : NameV X x (.ref f) := by
  cases h with
  | own h k => exact .inl h
theorem s_tryA {W : WX} {x : Str} {i : Nat} {c : Value} {su : TSu} {tb : Cx → WX → TS} (h : NameV X x c)
    (q : ∀ (pn : List (Addr × Obj)) (xe : Value → Shared → Prop), Takes (X.tr pn xe) (wAs X.K c i su W D) → tb (X.tr pn xe) (wAs X.K c i su W D) D σ H) : tTryA X W x i su tb D σ H := ⟨c, h, q⟩
theorem s_tryM {W : WX} {xs : List Str} {cs : List Value} {sus : List TSu} {tb : Cx → WX → TS} (h : NamesL X xs cs)
    (q : ∀ (pn : List (Addr × Obj)) (xe : Value → Shared → Prop), Takes (X.tr pn xe) (wMany X.K W D (cs.zip sus)) → tb (X.tr pn xe) (wMany X.K W D (cs.zip sus)) D σ H) : tTryM X W xs sus tb D σ H := ⟨cs, h, q⟩
theorem isi_exc {P : Program} {w : World} {mg : Str → Option Value} {base : Heap} {k : Nat} {W : WX} {a D D2 : Addr} {oe : Obj} {pn : List (Addr × Obj)} {b : Bool} {Q : VK} (C : Ctx P w K mg base k X W) (e : ExcC K D) (hz : Zc (.ref D) none oe) (hf : ∃ vs, oe.data = .fields vs)
    (kk : PySem.W.kitOne K (.ref D) (.ref D2) = some b) (q : Q (.bl b) H) : CV (X.suite a ((a, oe) :: pn)) (.builtin "isinstance") [.ref a, .ref D2] σ H Q := by
  have hK := C.K
  subst hK
  exact CV.of (call_isE e hz hf) ⟨.ref D2, .ref D2, b, rfl, fun u r => r, kk, q⟩
end
end Vc

namespace Vc
open PySem PySem.Spec PyProof.Rows L2

theorem Rd_same {H H' : Hp} {a : Addr} {o : HO} (s : Same H H') (h : Rd H a o) : Rd H' a o := h.elim (fun h => .inl (s _ _ h)) fun ⟨o, h⟩ => .inr ⟨o, s _ _ h⟩
theorem SqL_same {K : PySem.W.Frag} {H H' : Hp} {a : Addr} {xs : List V} (s : Same H H') (h : SqL K H a xs) : SqL K H' a xs := h.elim (fun h => .inl (Rd_same s h)) .inr
theorem SqT_same {K : PySem.W.Frag} {H H' : Hp} {a : Addr} {xs : List V} (s : Same H H') (h : SqT K H a xs) : SqT K H' a xs := h.elim (fun h => .inl (Rd_same s h)) .inr
mutual
theorem Dp_same {K : PySem.W.Frag} {H H' : Hp} (s : Same H H') : ∀ (d : PyData) (v : V), Dp K H v d → Dp K H' v d
  | .none, _, h => by cases h; exact .non
  | .bool b, _, h => by cases h; exact .bl b
  | .int i, _, h => by cases h; exact .int i
  | .str x, _, h => by cases h; exact .str x
  | .list ds, _, h => by
    cases h with
    | lst a b => exact .lst (SqL_same s a) (DpAll_same s ds _ b)
  | .tuple ds, _, h => by
    cases h with
    | tup a b => exact .tup (SqT_same s a) (DpAll_same s ds _ b)
  | .dict _, _, h => by cases h
theorem DpAll_same {K : PySem.W.Frag} {H H' : Hp} (s : Same H H') : ∀ (ds : List PyData) (vs : List V), DpAll K H vs ds → DpAll K H' vs ds
  | [], _, h => by cases h; exact .nil
  | d :: ds, _, h => by
    cases h with
    | cons a b => exact .cons (Dp_same s d _ a) (DpAll_same s ds _ b)
end
theorem DpAll_ints {K : PySem.W.Frag} {H : Hp} : ∀ js : List Int, DpAll K H (js.map V.int) (js.map PyData.int)
  | [] => .nil
  | i :: js => .cons (.int i) (DpAll_ints js)
theorem eqv_ints : ∀ is js : List Int, PyData.eqvAll (is.map PyData.int) (js.map PyData.int) = decide (is = js)
  | [], [] => rfl
  | [], _ :: _ => rfl
  | _ :: _, [] => rfl
  | i :: is, j :: js => by
    show (PyData.eqv (.int i) (.int j) && PyData.eqvAll (is.map PyData.int) (js.map PyData.int)) = _
    rw [eqv_ints is js]
    show ((i == j) && decide (is = js)) = _
    by_cases a : i = j <;> by_cases b : is = js <;> simp [a, b]
theorem lay_ints : ∀ is : List Int, PyData.canLayAll0 (is.map PyData.int) = true
  | [] => rfl
  | i :: is => by
    show (PyData.canLay0 (.int i) && PyData.canLayAll0 (is.map PyData.int)) = true
    rw [lay_ints is]
    rfl
theorem dep_ints : ∀ is : List Int, PyData.depthAll (is.map PyData.int) = 0
  | [] => rfl
  | i :: is => by
    show max (PyData.depth (.int i)) (PyData.depthAll (is.map PyData.int)) = 0
    rw [dep_ints is]
    rfl
theorem sha_ints (is : List Int) : SeqAt.shaped (.list (is.map PyData.int)) = true := by
  show (PyData.canLayAll0 (is.map PyData.int) && decide (PyData.depthAll (is.map PyData.int) + 1 ≤ 64)) = true
  rw [lay_ints, dep_ints]
  rfl
theorem sha_intsT (is : List Int) : SeqAt.shaped (.tuple (is.map PyData.int)) = true := by
  show (PyData.canLayAll0 (is.map PyData.int) && decide (PyData.depthAll (is.map PyData.int) + 1 ≤ 64)) = true
  rw [lay_ints, dep_ints]
  rfl
section
variable {P : Program} {w : World} {K : PySem.W.Frag} {mg : Str → Option Value} {base : Heap} {k : Nat} {X : Cx} {W : WX} {σ : L2.St} {H : Hp} {Q : VK} {x y : V} {d e : PyData} {is js : List Int} {a b : Addr}
theorem eq_D (C : Ctx P w K mg base k X W) (h1 : Dp K H x d) (h2 : Dp K H y e) (s1 : SeqAt.shaped d = true) (s2 : SeqAt.shaped e = true) (q : Q (.bl (PyData.eqv d e)) H) : O2 X (compareOp .Eq) x y σ H Q := by
  have hK := C.K
  subst hK
  exact .of (op_eqD C.r.units) ⟨d, e, h1, h2, s1, s2, q⟩
theorem ne_D (C : Ctx P w K mg base k X W) (h1 : Dp K H x d) (h2 : Dp K H y e) (s1 : SeqAt.shaped d = true) (s2 : SeqAt.shaped e = true) (q : Q (.bl (!PyData.eqv d e)) H) : O2 X (compareOp .NotEq) x y σ H Q := by
  have hK := C.K
  subst hK
  exact .of (op_neD C.r.units) ⟨d, e, h1, h2, s1, s2, q⟩
theorem eq_il (C : Ctx P w K mg base k X W) (h1 : SqL K H a (is.map V.int)) (h2 : SqL K H b (js.map V.int)) (q : Q (.bl (decide (is = js))) H) : O2 X (compareOp .Eq) (.ref a) (.ref b) σ H Q := by
  refine eq_D C (.lst h1 (DpAll_ints is)) (.lst h2 (DpAll_ints js)) (sha_ints is) (sha_ints js) ?_
  show Q (.bl (PyData.eqvAll _ _)) H
  rw [eqv_ints]
  exact q
theorem ne_il (C : Ctx P w K mg base k X W) (h1 : SqL K H a (is.map V.int)) (h2 : SqL K H b (js.map V.int)) (q : Q (.bl (!decide (is = js))) H) : O2 X (compareOp .NotEq) (.ref a) (.ref b) σ H Q := by
  refine ne_D C (.lst h1 (DpAll_ints is)) (.lst h2 (DpAll_ints js)) (sha_ints is) (sha_ints js) ?_
  show Q (.bl (!PyData.eqvAll _ _)) H
  rw [eqv_ints]
  exact q
theorem s_lstK {tA : TA} {n : Nat} (q : tA σ H fun xs H1 => xs.length ≤ sizeLine ∧ ∀ p, H1 p = none → Q (.ref p) (upd H1 p (.lst xs))) : tLst tA σ H Q := q
theorem tru_not {R : Bool → Hp → Prop} {c : Bool} (q : R c H) : Tr X (.bl c) σ H R := tru_b q
theorem eq_bb {c d : Bool} (q : Q (.bl (decide (c = d))) H) : O2 X (compareOp .Eq) (.bl c) (.bl d) σ H Q := eq_sc rfl (by
  have : decide ((V.bl c) = .bl d) = decide (c = d) := by cases c <;> cases d <;> simp
  rw [this]
  exact q)
theorem ne_bb {c d : Bool} (q : Q (.bl (!decide (c = d))) H) : O2 X (compareOp .NotEq) (.bl c) (.bl d) σ H Q := ne_sc rfl (by
  have : decide ((V.bl c) = .bl d) = decide (c = d) := by cases c <;> cases d <;> simp
  rw [this]
  exact q)
theorem ne_self {c : Bool} (q : Q (.bl false) H) : O2 X (compareOp .NotEq) (.bl c) (.bl c) σ H Q := ne_bb (by
  rw [decide_eq_true rfl]
  exact q)
end
theorem szr {n : Nat} (h : Nat.ble n 100000 = true) : n ≤ sizeLine := Nat.le_trans (Nat.le_of_ble_eq_true h) (by decide)
theorem sz2 {n : Nat} (h : n ≤ 100000) : n ≤ sizeLine := Nat.le_trans h (by decide)
end Vc

namespace Vc
open PySem PySem.Spec PyProof.Rows L2

/-! ### the law's own def, and the end -/
/-- the law's def, over every heap -/
def FnL (P : Program) (w : World) (K : PySem.W.Frag) (mg : Str → Option Value) (f : Addr) (k : Nat) (x : Str) (sp : Sp) : Prop :=
  ∃ fd, (∀ (s : Shared) (u : Value), BindsTo s fd ⟨[u], []⟩ [(x, u)]) ∧ ∀ base : Heap, FnOk P w K mg base (L2.CX P w) k f fd [x] sp
theorem fn_okL {P : Program} {w : World} {K : PySem.W.Frag} {mg : Str → Option Value} {k : Nat} {x qual : Str} {st : Stmt} {f : Addr} {fd : FuncData} {N : List Str} {p : Str} {sp : Sp} (F : Fun K x qual st f fd) (S : FnScope N [p] (defScope st))
    (bn : ∀ (kV doc pm : Value) (an : Option Addr) (cdv ct : Value) (us : List Value), us.length = [p].length → bindArgs (PySem.W.fnOf x qual (defArgs st) (defBody st) (defScope st) .none kV doc pm an cdv ct) ⟨us, []⟩ = pure ([p].zip us))
    (len : ∀ vs H Q E, sp vs H Q E → vs.length = [p].length) (rd : Cx → WX → TS) (n : Nat)
    (hrd : ∀ X W, rdSs (rdS N (defScope st) n X W true) (defBody st) = rd X W)
    (hb : ∀ (base : Heap) (X : Cx) (vs : List V) (H : Hp) (Q : VK) (E : XK), Ctx P w K mg base k X (fun cls d _ H => E cls d H) → sp vs H Q E → rd X (fun cls d _ H => E cls d H) { nx := fun _ H' => Q .non H', rt := Q } (start N vs) H) :
    FnL P w K mg f (k + 1) p sp := by
  refine ⟨fd, fun s u => ?_, fun base => F.okX S len (fun cdv A outer s H vs Q E hr h => ?_)⟩
  · obtain ⟨oc, od, kV, doc, pm, an, cdv, ct, osl, rfl, lk, hcd⟩ := F.ex
    exact .of_eq (bn kV doc pm an cdv ct [u] rfl)
  refine ⟨_, rdSs_ok (rdS_ok (N := N) (sc := defScope st) n (cm := true) (W := fun cls d _ H => E cls d H) ⟨⟨rfl, rfl, S.nd, fun _ _ => rfl⟩, rfl, rfl, passes_of rfl⟩ (fun _ => rfl) (takes_of rfl rfl rfl rfl)), ?_⟩
  rw [hrd]
  exact hb base _ vs H Q E ⟨rfl, rfl, rfl, rfl, rfl, hr, takes_of rfl rfl rfl rfl, rfl⟩ h
theorem walk_v {l : PySem.W.OpenLaw} {n k : Nat} {q : Program} {loose : List Str} {XP : (Str → Option Value) → Heap → Prop} {fa : List Fact} {fn : List DV} {d : DefRec} {x : Str} {sp : PySem.W.Frag → Sp}
    (hn : l.most = some n) (hn2 : n ≤ sizeLine) (hdf : d.params.defaults = []) (hr : Room k callerA) {dn : Str} (ed : d.name = dn) (hg0 : ∀ K : PySem.W.Frag, SaysV fa fn K → fGlo dn K = true)
    (F : ∀ (w : World) (K : PySem.W.Frag) (mg : Str → Option Value), Txt fa fn K mg → FnL l.prog w K mg (He.ga K dn) k x (sp K))
    (hsp : ∀ (K : PySem.W.Frag) (H : Hp) (a : Addr) (ns : List Int), ns.length ≤ n → SqL K H a (ns.map V.int) → sp K [.ref a] H (fun v _ => v = .bl true) fun _ _ _ => False) :
    PySem.W.WalkO q loose XP (hookV 6 fa fn).says l.row.toRowW d [] (fun f vs => PySem.call f vs) := by
  refine Att.attach_call hn hdf fun w s₀ s₁ mg mb f o pm cd doc a vs ns G Y ho hd hcd hmg hobj hints hlen hg => ?_
  obtain ⟨K, KX, c⟩ := Y
  have T : Txt fa fn K mg := ⟨c, fun x v e => PySem.W.mg_of KX G.T.g e, fun x e => PySem.W.mg_none_of KX G.T.g e⟩
  obtain ⟨fd, hb, hF⟩ := F w K mg T
  rw [ed] at hmg
  have e := hmg.symm.trans (He.glo_ok KX G.T.g (hg0 K c))
  cases e
  exact law_call KX G.T.g G.T.b G.T.builtins G.T.nolimit hg hobj hints (Nat.le_trans hlen hn2) hr (fun base _ _ => hF base) hb (fun H hO hS => hsp K H a ns hlen hS) fun H e s' ⟨_, _, _, _, _, _, _, _, _, _, _, _, z⟩ => z
end Vc

namespace T
open PySem PySem.Spec PyProof.Rows L2 Vc
def top (i : Nat) : Stmt := PySem.Challenge.pw_twocolourflips_k05_flips_made.main.body.getD i (.Pass ⟨0, 0, 0, 0⟩)
/-! ### is_count -/
abbrev s_is_count : Stmt := top 10
abbrev N_is_count : List Str := [("candidate" : Str)]
theorem sc_is_count : FnScope N_is_count [("candidate" : Str)] (defScope s_is_count) := ⟨rfl, rfl, rfl, by decide +kernel, rfl, by decide +kernel, by decide +kernel⟩
def r_is_count (X : Cx) (W : WX) : TS :=
  (tRet (tAndE X (tCallG X ("isinstance" : Str) (tCons (tVar 0) (tCons (tGlo X ("int" : Str)) tNil))) (tAndE X (tUny X (unaryOp .Not) (tCallG X ("isinstance" : Str) (tCons (tVar 0) (tCons (tGlo X ("bool" : Str)) tNil)))) (tBin X (compareOp .GtE) (tVar 0) (tC (.int 0))))))
theorem q_is_count (X : Cx) (W : WX) : rdSs (rdS N_is_count (defScope s_is_count) 60 X W true) (defBody s_is_count) = r_is_count X W := by kernel_rfl
/-! ### Flip.__init__ -/
abbrev s_Flip_init : Stmt := inClass (top 19) 0
abbrev N_Flip_init : List Str := [("self" : Str), ("start" : Str), ("end" : Str)]
theorem sc_Flip_init : FnScope N_Flip_init [("self" : Str), ("start" : Str), ("end" : Str)] (defScope s_Flip_init) := ⟨rfl, rfl, rfl, by decide +kernel, rfl, by decide +kernel, by decide +kernel⟩
def r_Flip_init (X : Cx) (W : WX) : TS :=
  (tSeq (tIfS (tOr (tNot (tTru X (tCallG X ("is_count" : Str) (tCons (tVar 1) tNil)))) (tOr (tNot (tTru X (tCallG X ("is_count" : Str) (tCons (tVar 2) tNil)))) (tTru X (tBin X (compareOp .GtE) (tVar 1) (tVar 2)))))
    (tRai X W ("InvalidFlip" : Str) (tCons (tC (.str ("two places are required" : Str))) tNil))
    tNext)
  (tSeq (sAtr X ("begin" : Str) (tVar 0) (tVar 1))
  (sAtr X ("finish" : Str) (tVar 0) (tVar 2))))
theorem q_Flip_init (X : Cx) (W : WX) : rdSs (rdS N_Flip_init (defScope s_Flip_init) 60 X W true) (defBody s_Flip_init) = r_Flip_init X W := by kernel_rfl
/-! ### Flip.start -/
abbrev s_Flip_start : Stmt := inClass (top 19) 1
abbrev N_Flip_start : List Str := [("self" : Str)]
theorem sc_Flip_start : FnScope N_Flip_start [("self" : Str)] (defScope s_Flip_start) := ⟨rfl, rfl, rfl, by decide +kernel, rfl, by decide +kernel, by decide +kernel⟩
def r_Flip_start (X : Cx) (W : WX) : TS :=
  (tRet (tAtr X ("begin" : Str) (tVar 0)))
theorem q_Flip_start (X : Cx) (W : WX) : rdSs (rdS N_Flip_start (defScope s_Flip_start) 60 X W true) (defBody s_Flip_start) = r_Flip_start X W := by kernel_rfl
/-! ### Flip.end -/
abbrev s_Flip_end : Stmt := inClass (top 19) 2
abbrev N_Flip_end : List Str := [("self" : Str)]
theorem sc_Flip_end : FnScope N_Flip_end [("self" : Str)] (defScope s_Flip_end) := ⟨rfl, rfl, rfl, by decide +kernel, rfl, by decide +kernel, by decide +kernel⟩
def r_Flip_end (X : Cx) (W : WX) : TS :=
  (tRet (tAtr X ("finish" : Str) (tVar 0)))
theorem q_Flip_end (X : Cx) (W : WX) : rdSs (rdS N_Flip_end (defScope s_Flip_end) 60 X W true) (defBody s_Flip_end) = r_Flip_end X W := by kernel_rfl
/-! ### Flip.__eq__ -/
abbrev s_Flip_eq : Stmt := inClass (top 19) 3
abbrev N_Flip_eq : List Str := [("self" : Str), ("other" : Str)]
theorem sc_Flip_eq : FnScope N_Flip_eq [("self" : Str), ("other" : Str)] (defScope s_Flip_eq) := ⟨rfl, rfl, rfl, by decide +kernel, rfl, by decide +kernel, by decide +kernel⟩
def r_Flip_eq (X : Cx) (W : WX) : TS :=
  (tRet (tAndE X (tCallG X ("isinstance" : Str) (tCons (tVar 1) (tCons (tGlo X ("Flip" : Str)) tNil))) (tAndE X (tBin X (compareOp .Eq) (tAtr X ("begin" : Str) (tVar 0)) (tAtr X ("begin" : Str) (tVar 1))) (tBin X (compareOp .Eq) (tAtr X ("finish" : Str) (tVar 0)) (tAtr X ("finish" : Str) (tVar 1))))))
theorem q_Flip_eq (X : Cx) (W : WX) : rdSs (rdS N_Flip_eq (defScope s_Flip_eq) 60 X W true) (defBody s_Flip_eq) = r_Flip_eq X W := by kernel_rfl
/-! ### _law_stream -/
abbrev s__law_stream : Stmt := top 21
abbrev N__law_stream : List Str := [("_law_script" : Str), ("_law_k" : Str), ("_law_cell" : Str), ("_law_size" : Str), ("_law_mixed" : Str)]
theorem sc__law_stream : FnScope N__law_stream [("_law_script" : Str), ("_law_k" : Str)] (defScope s__law_stream) := ⟨rfl, rfl, rfl, by decide +kernel, rfl, by decide +kernel, by decide +kernel⟩
def r__law_stream (X : Cx) (W : WX) : TS :=
  (tSeq (tAsg (tC (.int 0)) (gName 2))
  (tSeq (tIfS (tTru X (tBin X (compareOp .Lt) (tVar 1) (tCallG X ("len" : Str) (tCons (tVar 0) tNil))))
    (tAsg (tIx X (tVar 0) (tVar 1)) (gName 2))
    tNext)
  (tSeq (tAsg (tCallG X ("max" : Str) (tCons (tVar 2) (tCons (tBin X (binaryOp .Sub) (tUny X (unaryOp .USub) (tC (.int 1))) (tVar 2)) tNil))) (gName 3))
  (tSeq (tAsg (tBin X (binaryOp .Mod) (tBin X (binaryOp .Mult) (tBin X (binaryOp .Add) (tBin X (binaryOp .Add) (tBin X (binaryOp .Add) (tBin X (binaryOp .Mod) (tVar 3) (tC (.int 2147483629))) (tBin X (binaryOp .Mult) (tBin X (binaryOp .Mult) (tC (.int 7919)) (tVar 1)) (tVar 1))) (tBin X (binaryOp .Mult) (tC (.int 31)) (tVar 1))) (tC (.int 17))) (tC (.int 48271))) (tC (.int 2147483647))) (gName 4))
  (tRet (tLst (tCons (tBin X (binaryOp .Mult) (tVar 3) (tCallG X ("int" : Str) (tCons (tBin X (compareOp .GtE) (tVar 3) (tBin X (binaryOp .Pow) (tC (.int 10)) (tC (.int 18)))) tNil))) (tCons (tVar 4) tNil))))))))
theorem q__law_stream (X : Cx) (W : WX) : rdSs (rdS N__law_stream (defScope s__law_stream) 60 X W true) (defBody s__law_stream) = r__law_stream X W := by kernel_rfl
/-! ### _law_draw -/
abbrev s__law_draw : Stmt := top 22
abbrev N__law_draw : List Str := [("_law_stream_here" : Str), ("_law_count" : Str), ("_law_result" : Str)]
theorem sc__law_draw : FnScope N__law_draw [("_law_stream_here" : Str), ("_law_count" : Str)] (defScope s__law_draw) := ⟨rfl, rfl, rfl, by decide +kernel, rfl, by decide +kernel, by decide +kernel⟩
def r__law_draw (X : Cx) (W : WX) : TS :=
  (tSeq (tIfS (tTru X (tBin X (compareOp .Gt) (tIx X (tVar 0) (tC (.int 0))) (tC (.int 0))))
    (tSeq (tAsg (tBin X (binaryOp .Mod) (tIx X (tVar 0) (tC (.int 0))) (tVar 1)) (gName 2))
    (tSeq (tAsg (tBin X (binaryOp .FloorDiv) (tIx X (tVar 0) (tC (.int 0))) (tVar 1)) (gIx X (tVar 0) (tC (.int 0))))
    (tRet (tVar 2))))
    tNext)
  (tSeq (tAsg (tBin X (binaryOp .Mod) (tBin X (binaryOp .Add) (tBin X (binaryOp .Mult) (tIx X (tVar 0) (tC (.int 1))) (tC (.int 69621))) (tC (.int 7))) (tC (.int 2147483647))) (gIx X (tVar 0) (tC (.int 1))))
  (tRet (tBin X (binaryOp .Mod) (tBin X (binaryOp .FloorDiv) (tBin X (binaryOp .Mod) (tBin X (binaryOp .Mult) (tIx X (tVar 0) (tC (.int 1))) (tIx X (tVar 0) (tC (.int 1)))) (tC (.int 2147483629))) (tC (.int 32))) (tVar 1)))))
theorem q__law_draw (X : Cx) (W : WX) : rdSs (rdS N__law_draw (defScope s__law_draw) 60 X W true) (defBody s__law_draw) = r__law_draw X W := by kernel_rfl
/-! ### _law_raises -/
abbrev s__law_raises : Stmt := top 24
abbrev N__law_raises : List Str := [("_law_start" : Str), ("_law_end" : Str), ("e" : Str)]
theorem sc__law_raises : FnScope N__law_raises [("_law_start" : Str), ("_law_end" : Str)] (defScope s__law_raises) := ⟨rfl, rfl, rfl, by decide +kernel, rfl, by decide +kernel, by decide +kernel⟩
def r__law_raises (X : Cx) (W : WX) : TS :=
  (tSeq (tTryA X W ("InvalidFlip" : Str) 2
    (tSuite X fun Y2 => (tRet (tCallG Y2 ("isinstance" : Str) (tCons (tVar 2) (tCons (tGlo Y2 ("FlipError" : Str)) tNil)))))
    fun Y2 V2 => (tDrop (tCallG Y2 ("Flip" : Str) (tCons (tVar 0) (tCons (tVar 1) tNil)))))
  (tRet (tC (.bl false))))
theorem q__law_raises (X : Cx) (W : WX) : rdSs (rdS N__law_raises (defScope s__law_raises) 60 X W true) (defBody s__law_raises) = r__law_raises X W := by kernel_rfl
/-! ### law -/
abbrev s_law : Stmt := top 25
abbrev N_law : List Str := [("_law_script" : Str), ("_law_k" : Str), ("_law_stream_here" : Str), ("_law_start" : Str), ("_law_end" : Str), ("_law_flip" : Str), ("_law_odd" : Str), ("_law_one" : Str), ("_law_other" : Str)]
theorem sc_law : FnScope N_law [("_law_script" : Str)] (defScope s_law) := ⟨rfl, rfl, rfl, by decide +kernel, rfl, by decide +kernel, by decide +kernel⟩
def r_law (X : Cx) (W : WX) : TS :=
  (tSeq (tFor (iRg1 X (tCons (tCallG X ("max" : Str) (tCons (tC (.int 1)) (tCons (tCallG X ("min" : Str) (tCons (tC (.int 10)) (tCons (tCallG X ("len" : Str) (tCons (tVar 0) tNil)) tNil))) tNil))) tNil)) (gName 1)
    (tSeq (tAsg (tCallG X ("_law_stream" : Str) (tCons (tVar 0) (tCons (tVar 1) tNil))) (gName 2))
    (tSeq (tAsg (tCallG X ("_law_draw" : Str) (tCons (tVar 2) (tCons (tIx X (tLst (tCons (tC (.int 9)) (tCons (tBin X (binaryOp .Pow) (tC (.int 10)) (tC (.int 30))) tNil))) (tCallG X ("_law_draw" : Str) (tCons (tVar 2) (tCons (tC (.int 2)) tNil)))) tNil))) (gName 3))
    (tSeq (tAsg (tBin X (binaryOp .Add) (tBin X (binaryOp .Add) (tVar 3) (tC (.int 1))) (tCallG X ("_law_draw" : Str) (tCons (tVar 2) (tCons (tIx X (tLst (tCons (tC (.int 9)) (tCons (tBin X (binaryOp .Pow) (tC (.int 10)) (tC (.int 30))) tNil))) (tCallG X ("_law_draw" : Str) (tCons (tVar 2) (tCons (tC (.int 2)) tNil)))) tNil)))) (gName 4))
    (tSeq (tAsg (tCallG X ("Flip" : Str) (tCons (tVar 3) (tCons (tVar 4) tNil))) (gName 5))
    (tSeq (tIfS (tOr (tTru X (tBin X (compareOp .NotEq) (tLst (tCons (tAtr X ("start" : Str) (tVar 5)) (tCons (tAtr X ("end" : Str) (tVar 5)) tNil))) (tLst (tCons (tVar 3) (tCons (tVar 4) tNil))))) (tOr (tTru X (tBin X (compareOp .NotEq) (tVar 5) (tCallG X ("Flip" : Str) (tCons (tVar 3) (tCons (tVar 4) tNil))))) (tTru X (tBin X (compareOp .Eq) (tVar 5) (tTup (tCons (tVar 3) (tCons (tVar 4) tNil)))))))
      (tRet (tC (.bl false)))
      tNext)
    (tSeq (tIfS (tTru X (tBin X (compareOp .Eq) (tVar 5) (tC .non)))
      (tRet (tC (.bl false)))
      tNext)
    (tSeq (tIfS (tOr (tTru X (tBin X (compareOp .Eq) (tVar 5) (tCallG X ("Flip" : Str) (tCons (tVar 3) (tCons (tBin X (binaryOp .Add) (tVar 4) (tC (.int 1))) tNil))))) (tTru X (tBin X (compareOp .Eq) (tVar 5) (tCallG X ("Flip" : Str) (tCons (tBin X (binaryOp .Add) (tVar 3) (tC (.int 1))) (tCons (tBin X (binaryOp .Add) (tVar 4) (tC (.int 1))) tNil))))))
      (tRet (tC (.bl false)))
      tNext)
    (tSeq (tIfS (tTru X (tBin X (compareOp .NotEq) (tBin X (compareOp .Eq) (tVar 5) (tCallG X ("Flip" : Str) (tCons (tC (.int 0)) (tCons (tVar 4) tNil)))) (tBin X (compareOp .Eq) (tVar 3) (tC (.int 0)))))
      (tRet (tC (.bl false)))
      tNext)
    (tSeq (tFor (iAny X (tLst (tCons (tC .non) (tCons (tC (.bl true)) (tCons (tC (.bl false)) (tCons (tUny X (unaryOp .USub) (tC (.int 1))) (tCons (tC (.str ("0" : Str))) (tCons (tLst (tCons (tC (.int 0)) tNil)) (tCons (tTup (tCons (tC (.int 0)) tNil)) tNil))))))))) (gName 6)
      (tIfS (tOr (tNot (tTru X (tCallG X ("_law_raises" : Str) (tCons (tVar 6) (tCons (tVar 4) tNil))))) (tNot (tTru X (tCallG X ("_law_raises" : Str) (tCons (tC (.int 0)) (tCons (tVar 6) tNil))))))
        (tRet (tC (.bl false)))
        tNext))
    (tFor (iAny X (tLst (tCons (tTup (tCons (tVar 3) (tCons (tVar 3) tNil))) (tCons (tTup (tCons (tVar 4) (tCons (tVar 3) tNil))) (tCons (tTup (tCons (tBin X (binaryOp .Add) (tVar 4) (tC (.int 1))) (tCons (tVar 4) tNil))) (tCons (tTup (tCons (tUny X (unaryOp .USub) (tC (.int 2))) (tCons (tUny X (unaryOp .USub) (tC (.int 1))) tNil))) (tCons (tTup (tCons (tC (.int 0)) (tCons (tC (.int 0)) tNil))) (tCons (tTup (tCons (tC .non) (tCons (tC .non) tNil))) tNil)))))))) (gUnp X.K 2 (gCons (gName 7) (gCons (gName 8) gNil)))
      (tIfS (tNot (tTru X (tCallG X ("_law_raises" : Str) (tCons (tVar 7) (tCons (tVar 8) tNil)))))
        (tRet (tC (.bl false)))
        tNext))))))))))))
  (tRet (tC (.bl true))))
theorem q_law (X : Cx) (W : WX) : rdSs (rdS N_law (defScope s_law) 60 X W true) (defBody s_law) = r_law X W := by kernel_rfl
/-! ### what the top has written -/
def fa : List Fact := ([fGlo ("Flip" : Str), fKeep ("Flip" : Str), fGlo ("FlipError" : Str), fKeep ("FlipError" : Str), fGlo ("InvalidFlip" : Str), fKeep ("InvalidFlip" : Str), fGlo ("_law_draw" : Str), fKeep ("_law_draw" : Str), fGlo ("_law_raises" : Str), fKeep ("_law_raises" : Str), fGlo ("_law_stream" : Str), fKeep ("_law_stream" : Str), fFree ("bool" : Str), fFree ("int" : Str), fGlo ("is_count" : Str), fKeep ("is_count" : Str), fFree ("isinstance" : Str), fFree ("len" : Str), fFree ("max" : Str), fFree ("min" : Str), fFree ("range" : Str), fCls ("Row" : Str), fIns ("Row" : Str), fMkr ("Row" : Str), fNoat ("Row" : Str) ("colour" : Str), fNoat ("Row" : Str) ("sizes" : Str), fMeth ("Row" : Str) ("__init__" : Str), fProp ("Row" : Str) ("first" : Str), fProp ("Row" : Str) ("last" : Str), fProp ("Row" : Str) ("lengths" : Str)] : List Fact) ++ ([fProp ("Row" : Str) ("runs" : Str), fProp ("Row" : Str) ("length" : Str), fMeth ("Row" : Str) ("__eq__" : Str), fMeth ("Row" : Str) ("__bool__" : Str), fMeth ("Row" : Str) ("__iter__" : Str), fMeth ("Row" : Str) ("__getitem__" : Str), fMeth ("Row" : Str) ("__add__" : Str), fMeth ("Row" : Str) ("__mul__" : Str), fMeth ("Row" : Str) ("__invert__" : Str), fMeth ("Row" : Str) ("__neg__" : Str), fMeth ("Row" : Str) ("part" : Str), fMeth ("Row" : Str) ("count" : Str), fMeth ("Row" : Str) ("borders" : Str), fNe ("Row" : Str), fNsub "NoneType" ("Row" : Str), fNsub "int" ("Row" : Str), fNsub "bool" ("Row" : Str), fNsub "list" ("Row" : Str), fNsub "str" ("Row" : Str), fNsub "tuple" ("Row" : Str), fNsub "dict" ("Row" : Str), fNsubC ("Flip" : Str) ("Row" : Str), fKitO ("Row" : Str) "int" false, fKitO ("Row" : Str) "bool" false, fKitO ("Row" : Str) "list" false, fKitO ("Row" : Str) "str" false, fKitO ("Row" : Str) "tuple" false, fKitO ("Row" : Str) "dict" false, fKitT "int" ("Row" : Str) false, fKitT "bool" ("Row" : Str) false] : List Fact) ++ ([fKitT "list" ("Row" : Str) false, fKitT "str" ("Row" : Str) false, fKitT "tuple" ("Row" : Str) false, fKitT "dict" ("Row" : Str) false, fKitT "NoneType" ("Row" : Str) false, fKit ("Row" : Str) ("Row" : Str) true, fKit ("Row" : Str) ("Flip" : Str) false, fCls ("Flip" : Str), fIns ("Flip" : Str), fMkr ("Flip" : Str), fNoat ("Flip" : Str) ("begin" : Str), fNoat ("Flip" : Str) ("finish" : Str), fMeth ("Flip" : Str) ("__init__" : Str), fProp ("Flip" : Str) ("start" : Str), fProp ("Flip" : Str) ("end" : Str), fMeth ("Flip" : Str) ("__eq__" : Str), fMeth ("Flip" : Str) ("check" : Str), fMeth ("Flip" : Str) ("__call__" : Str), fMeth ("Flip" : Str) ("is_whole" : Str), fMeth ("Flip" : Str) ("change" : Str), fNe ("Flip" : Str), fNsub "NoneType" ("Flip" : Str), fNsub "int" ("Flip" : Str), fNsub "bool" ("Flip" : Str), fNsub "list" ("Flip" : Str), fNsub "str" ("Flip" : Str), fNsub "tuple" ("Flip" : Str), fNsub "dict" ("Flip" : Str), fNsubC ("Row" : Str) ("Flip" : Str), fKitO ("Flip" : Str) "int" false] : List Fact) ++ ([fKitO ("Flip" : Str) "bool" false, fKitO ("Flip" : Str) "list" false, fKitO ("Flip" : Str) "str" false, fKitO ("Flip" : Str) "tuple" false, fKitO ("Flip" : Str) "dict" false, fKitT "int" ("Flip" : Str) false, fKitT "bool" ("Flip" : Str) false, fKitT "list" ("Flip" : Str) false, fKitT "str" ("Flip" : Str) false, fKitT "tuple" ("Flip" : Str) false, fKitT "dict" ("Flip" : Str) false, fKitT "NoneType" ("Flip" : Str) false, fKit ("Flip" : Str) ("Row" : Str) false, fKit ("Flip" : Str) ("Flip" : Str) true, fExc ("FlipError" : Str) [.type "ValueError", .type "Exception", .type "BaseException", .type "object"] "ValueError.__new__", fExcC ("FlipError" : Str), fExc ("InvalidFlip" : Str) [.type "ValueError", .type "Exception", .type "BaseException", .type "object"] "ValueError.__new__", fExcC ("InvalidFlip" : Str), fExm ("FlipError" : Str) ("InvalidFlip" : Str) false, fExm ("InvalidFlip" : Str) ("InvalidFlip" : Str) true, fKit ("FlipError" : Str) ("FlipError" : Str) true, fKit ("FlipError" : Str) ("InvalidFlip" : Str) false, fKit ("InvalidFlip" : Str) ("FlipError" : Str) true, fKit ("InvalidFlip" : Str) ("InvalidFlip" : Str) true, fGlo ("law" : Str)] : List Fact)
def fn : List DV := ([⟨fun K => He.ga K ("is_count" : Str), ("is_count" : Str), ("is_count" : Str), s_is_count⟩,
  ⟨fun K => He.ma K (He.ga K ("Flip" : Str)) ("__init__" : Str), ("__init__" : Str), ("Flip.__init__" : Str), s_Flip_init⟩,
  ⟨fun K => pga K ("Flip" : Str) ("start" : Str), ("start" : Str), ("Flip.start" : Str), s_Flip_start⟩,
  ⟨fun K => pga K ("Flip" : Str) ("end" : Str), ("end" : Str), ("Flip.end" : Str), s_Flip_end⟩,
  ⟨fun K => He.ma K (He.ga K ("Flip" : Str)) ("__eq__" : Str), ("__eq__" : Str), ("Flip.__eq__" : Str), s_Flip_eq⟩,
  ⟨fun K => He.ga K ("_law_stream" : Str), ("_law_stream" : Str), ("_law_stream" : Str), s__law_stream⟩,
  ⟨fun K => He.ga K ("_law_draw" : Str), ("_law_draw" : Str), ("_law_draw" : Str), s__law_draw⟩,
  ⟨fun K => He.ga K ("_law_raises" : Str), ("_law_raises" : Str), ("_law_raises" : Str), s__law_raises⟩,
  ⟨fun K => He.ga K ("law" : Str), ("law" : Str), ("law" : Str), s_law⟩] : List DV)
abbrev TX (K : PySem.W.Frag) (mg : Str → Option Value) : Prop := Txt fa fn K mg
section
variable {P : Program} {w : World} {K : PySem.W.Frag} {mg : Str → Option Value} {base : Heap} {k : Nat} {X : Cx} {W : WX}
theorem g_Flip (T : TX K mg) (C : Ctx P w K mg base k X W) : Cal X ("Flip" : Str) (.ref (He.ga K ("Flip" : Str))) := .own (by rw [C.m]; exact T.glo (T.c.fact 0)) (by rw [C.K]; exact T.c.fact 1)
theorem m_Flip (T : TX K mg) (C : Ctx P w K mg base k X W) : X.mg ("Flip" : Str) = some (.ref (He.ga K ("Flip" : Str))) := by rw [C.m]; exact T.glo (T.c.fact 0)
theorem g_FlipError (T : TX K mg) (C : Ctx P w K mg base k X W) : Cal X ("FlipError" : Str) (.ref (He.ga K ("FlipError" : Str))) := .own (by rw [C.m]; exact T.glo (T.c.fact 2)) (by rw [C.K]; exact T.c.fact 3)
theorem m_FlipError (T : TX K mg) (C : Ctx P w K mg base k X W) : X.mg ("FlipError" : Str) = some (.ref (He.ga K ("FlipError" : Str))) := by rw [C.m]; exact T.glo (T.c.fact 2)
theorem g_InvalidFlip (T : TX K mg) (C : Ctx P w K mg base k X W) : Cal X ("InvalidFlip" : Str) (.ref (He.ga K ("InvalidFlip" : Str))) := .own (by rw [C.m]; exact T.glo (T.c.fact 4)) (by rw [C.K]; exact T.c.fact 5)
theorem m_InvalidFlip (T : TX K mg) (C : Ctx P w K mg base k X W) : X.mg ("InvalidFlip" : Str) = some (.ref (He.ga K ("InvalidFlip" : Str))) := by rw [C.m]; exact T.glo (T.c.fact 4)
theorem g__law_draw (T : TX K mg) (C : Ctx P w K mg base k X W) : Cal X ("_law_draw" : Str) (.ref (He.ga K ("_law_draw" : Str))) := .own (by rw [C.m]; exact T.glo (T.c.fact 6)) (by rw [C.K]; exact T.c.fact 7)
theorem m__law_draw (T : TX K mg) (C : Ctx P w K mg base k X W) : X.mg ("_law_draw" : Str) = some (.ref (He.ga K ("_law_draw" : Str))) := by rw [C.m]; exact T.glo (T.c.fact 6)
theorem g__law_raises (T : TX K mg) (C : Ctx P w K mg base k X W) : Cal X ("_law_raises" : Str) (.ref (He.ga K ("_law_raises" : Str))) := .own (by rw [C.m]; exact T.glo (T.c.fact 8)) (by rw [C.K]; exact T.c.fact 9)
theorem m__law_raises (T : TX K mg) (C : Ctx P w K mg base k X W) : X.mg ("_law_raises" : Str) = some (.ref (He.ga K ("_law_raises" : Str))) := by rw [C.m]; exact T.glo (T.c.fact 8)
theorem g__law_stream (T : TX K mg) (C : Ctx P w K mg base k X W) : Cal X ("_law_stream" : Str) (.ref (He.ga K ("_law_stream" : Str))) := .own (by rw [C.m]; exact T.glo (T.c.fact 10)) (by rw [C.K]; exact T.c.fact 11)
theorem m__law_stream (T : TX K mg) (C : Ctx P w K mg base k X W) : X.mg ("_law_stream" : Str) = some (.ref (He.ga K ("_law_stream" : Str))) := by rw [C.m]; exact T.glo (T.c.fact 10)
theorem g_bool (T : TX K mg) (C : Ctx P w K mg base k X W) : Cal X ("bool" : Str) (.type "bool") := .typ (by rw [C.m]; exact T.free (T.c.fact 12)) (by decide +kernel)
theorem m_bool (T : TX K mg) (C : Ctx P w K mg base k X W) : X.mg ("bool" : Str) = none := by rw [C.m]; exact T.free (T.c.fact 12)
theorem g_int (T : TX K mg) (C : Ctx P w K mg base k X W) : Cal X ("int" : Str) (.type "int") := .typ (by rw [C.m]; exact T.free (T.c.fact 13)) (by decide +kernel)
theorem m_int (T : TX K mg) (C : Ctx P w K mg base k X W) : X.mg ("int" : Str) = none := by rw [C.m]; exact T.free (T.c.fact 13)
theorem g_is_count (T : TX K mg) (C : Ctx P w K mg base k X W) : Cal X ("is_count" : Str) (.ref (He.ga K ("is_count" : Str))) := .own (by rw [C.m]; exact T.glo (T.c.fact 14)) (by rw [C.K]; exact T.c.fact 15)
theorem m_is_count (T : TX K mg) (C : Ctx P w K mg base k X W) : X.mg ("is_count" : Str) = some (.ref (He.ga K ("is_count" : Str))) := by rw [C.m]; exact T.glo (T.c.fact 14)
theorem g_isinstance (T : TX K mg) (C : Ctx P w K mg base k X W) : Cal X ("isinstance" : Str) (.builtin "isinstance") := .blt (by rw [C.m]; exact T.free (T.c.fact 16)) (by decide +kernel)
theorem m_isinstance (T : TX K mg) (C : Ctx P w K mg base k X W) : X.mg ("isinstance" : Str) = none := by rw [C.m]; exact T.free (T.c.fact 16)
theorem g_len (T : TX K mg) (C : Ctx P w K mg base k X W) : Cal X ("len" : Str) (.builtin "len") := .blt (by rw [C.m]; exact T.free (T.c.fact 17)) (by decide +kernel)
theorem m_len (T : TX K mg) (C : Ctx P w K mg base k X W) : X.mg ("len" : Str) = none := by rw [C.m]; exact T.free (T.c.fact 17)
theorem g_max (T : TX K mg) (C : Ctx P w K mg base k X W) : Cal X ("max" : Str) (.builtin "max") := .blt (by rw [C.m]; exact T.free (T.c.fact 18)) (by decide +kernel)
theorem m_max (T : TX K mg) (C : Ctx P w K mg base k X W) : X.mg ("max" : Str) = none := by rw [C.m]; exact T.free (T.c.fact 18)
theorem g_min (T : TX K mg) (C : Ctx P w K mg base k X W) : Cal X ("min" : Str) (.builtin "min") := .blt (by rw [C.m]; exact T.free (T.c.fact 19)) (by decide +kernel)
theorem m_min (T : TX K mg) (C : Ctx P w K mg base k X W) : X.mg ("min" : Str) = none := by rw [C.m]; exact T.free (T.c.fact 19)
theorem g_range (T : TX K mg) (C : Ctx P w K mg base k X W) : Cal X ("range" : Str) (.type "range") := .typ (by rw [C.m]; exact T.free (T.c.fact 20)) (by decide +kernel)
theorem m_range (T : TX K mg) (C : Ctx P w K mg base k X W) : X.mg ("range" : Str) = none := by rw [C.m]; exact T.free (T.c.fact 20)
theorem c_Row (T : TX K mg) : Cls K (He.ga K ("Row" : Str)) := cls_of (T.c.fact 21)
theorem i_Row (T : TX K mg) : InsF K (He.ga K ("Row" : Str)) := ins_of (T.c.fact 22)
theorem k_Row (T : TX K mg) : Mk K (He.ga K ("Row" : Str)) (He.ma K (He.ga K ("Row" : Str)) "__init__") := mkr_of (T.c.fact 23)
theorem n_Row_colour (T : TX K mg) : NoAttr K (He.ga K ("Row" : Str)) ("colour" : Str) := noat_of (T.c.fact 24)
theorem n_Row_sizes (T : TX K mg) : NoAttr K (He.ga K ("Row" : Str)) ("sizes" : Str) := noat_of (T.c.fact 25)
theorem h_Row_init (T : TX K mg) : Meth K (He.ga K ("Row" : Str)) ("__init__" : Str) (He.ma K (He.ga K ("Row" : Str)) ("__init__" : Str)) := meth_of (T.c.fact 26)
theorem p_Row_first (T : TX K mg) : PropOf K (He.ga K ("Row" : Str)) ("first" : Str) (He.ma K (He.ga K ("Row" : Str)) ("first" : Str)) (pga K ("Row" : Str) ("first" : Str)) := prop_of (T.c.fact 27)
theorem p_Row_last (T : TX K mg) : PropOf K (He.ga K ("Row" : Str)) ("last" : Str) (He.ma K (He.ga K ("Row" : Str)) ("last" : Str)) (pga K ("Row" : Str) ("last" : Str)) := prop_of (T.c.fact 28)
theorem p_Row_lengths (T : TX K mg) : PropOf K (He.ga K ("Row" : Str)) ("lengths" : Str) (He.ma K (He.ga K ("Row" : Str)) ("lengths" : Str)) (pga K ("Row" : Str) ("lengths" : Str)) := prop_of (T.c.fact 29)
theorem p_Row_runs (T : TX K mg) : PropOf K (He.ga K ("Row" : Str)) ("runs" : Str) (He.ma K (He.ga K ("Row" : Str)) ("runs" : Str)) (pga K ("Row" : Str) ("runs" : Str)) := prop_of (T.c.fact 30)
theorem p_Row_length (T : TX K mg) : PropOf K (He.ga K ("Row" : Str)) ("length" : Str) (He.ma K (He.ga K ("Row" : Str)) ("length" : Str)) (pga K ("Row" : Str) ("length" : Str)) := prop_of (T.c.fact 31)
theorem h_Row_eq (T : TX K mg) : Meth K (He.ga K ("Row" : Str)) ("__eq__" : Str) (He.ma K (He.ga K ("Row" : Str)) ("__eq__" : Str)) := meth_of (T.c.fact 32)
theorem h_Row_bool (T : TX K mg) : Meth K (He.ga K ("Row" : Str)) ("__bool__" : Str) (He.ma K (He.ga K ("Row" : Str)) ("__bool__" : Str)) := meth_of (T.c.fact 33)
theorem h_Row_iter (T : TX K mg) : Meth K (He.ga K ("Row" : Str)) ("__iter__" : Str) (He.ma K (He.ga K ("Row" : Str)) ("__iter__" : Str)) := meth_of (T.c.fact 34)
theorem h_Row_getitem (T : TX K mg) : Meth K (He.ga K ("Row" : Str)) ("__getitem__" : Str) (He.ma K (He.ga K ("Row" : Str)) ("__getitem__" : Str)) := meth_of (T.c.fact 35)
theorem h_Row_add (T : TX K mg) : Meth K (He.ga K ("Row" : Str)) ("__add__" : Str) (He.ma K (He.ga K ("Row" : Str)) ("__add__" : Str)) := meth_of (T.c.fact 36)
theorem h_Row_mul (T : TX K mg) : Meth K (He.ga K ("Row" : Str)) ("__mul__" : Str) (He.ma K (He.ga K ("Row" : Str)) ("__mul__" : Str)) := meth_of (T.c.fact 37)
theorem h_Row_invert (T : TX K mg) : Meth K (He.ga K ("Row" : Str)) ("__invert__" : Str) (He.ma K (He.ga K ("Row" : Str)) ("__invert__" : Str)) := meth_of (T.c.fact 38)
theorem h_Row_neg (T : TX K mg) : Meth K (He.ga K ("Row" : Str)) ("__neg__" : Str) (He.ma K (He.ga K ("Row" : Str)) ("__neg__" : Str)) := meth_of (T.c.fact 39)
theorem h_Row_part (T : TX K mg) : Meth K (He.ga K ("Row" : Str)) ("part" : Str) (He.ma K (He.ga K ("Row" : Str)) ("part" : Str)) := meth_of (T.c.fact 40)
theorem h_Row_count (T : TX K mg) : Meth K (He.ga K ("Row" : Str)) ("count" : Str) (He.ma K (He.ga K ("Row" : Str)) ("count" : Str)) := meth_of (T.c.fact 41)
theorem h_Row_borders (T : TX K mg) : Meth K (He.ga K ("Row" : Str)) ("borders" : Str) (He.ma K (He.ga K ("Row" : Str)) ("borders" : Str)) := meth_of (T.c.fact 42)
theorem ne_Row (T : TX K mg) : PySem.W.findIn K (.ref (He.ga K ("Row" : Str))) "__ne__" = some (some (.builtin "object.__ne__")) ∧ PySem.W.subIn K (.ref (He.ga K ("Row" : Str))) (.type "object") = some true := ne_of' (T.c.fact 43)
theorem nf_NoneType_Row (T : TX K mg) : PySem.W.notFirst K (He.ga K ("Row" : Str)) (.type "NoneType") = true := nsub_of (T.c.fact 44)
theorem nf_int_Row (T : TX K mg) : PySem.W.notFirst K (He.ga K ("Row" : Str)) (.type "int") = true := nsub_of (T.c.fact 45)
theorem nf_bool_Row (T : TX K mg) : PySem.W.notFirst K (He.ga K ("Row" : Str)) (.type "bool") = true := nsub_of (T.c.fact 46)
theorem nf_list_Row (T : TX K mg) : PySem.W.notFirst K (He.ga K ("Row" : Str)) (.type "list") = true := nsub_of (T.c.fact 47)
theorem nf_str_Row (T : TX K mg) : PySem.W.notFirst K (He.ga K ("Row" : Str)) (.type "str") = true := nsub_of (T.c.fact 48)
theorem nf_tuple_Row (T : TX K mg) : PySem.W.notFirst K (He.ga K ("Row" : Str)) (.type "tuple") = true := nsub_of (T.c.fact 49)
theorem nf_dict_Row (T : TX K mg) : PySem.W.notFirst K (He.ga K ("Row" : Str)) (.type "dict") = true := nsub_of (T.c.fact 50)
theorem nf_Flip_Row (T : TX K mg) : PySem.W.notFirst K (He.ga K ("Row" : Str)) (.ref (He.ga K ("Flip" : Str))) = true := nsubC_of (T.c.fact 51)
theorem o_Row_int (T : TX K mg) : PySem.W.kitOne K (.ref (He.ga K ("Row" : Str))) (.type "int") = some false := kitO_of (T.c.fact 52)
theorem o_Row_bool (T : TX K mg) : PySem.W.kitOne K (.ref (He.ga K ("Row" : Str))) (.type "bool") = some false := kitO_of (T.c.fact 53)
theorem o_Row_list (T : TX K mg) : PySem.W.kitOne K (.ref (He.ga K ("Row" : Str))) (.type "list") = some false := kitO_of (T.c.fact 54)
theorem o_Row_str (T : TX K mg) : PySem.W.kitOne K (.ref (He.ga K ("Row" : Str))) (.type "str") = some false := kitO_of (T.c.fact 55)
theorem o_Row_tuple (T : TX K mg) : PySem.W.kitOne K (.ref (He.ga K ("Row" : Str))) (.type "tuple") = some false := kitO_of (T.c.fact 56)
theorem o_Row_dict (T : TX K mg) : PySem.W.kitOne K (.ref (He.ga K ("Row" : Str))) (.type "dict") = some false := kitO_of (T.c.fact 57)
theorem t_int_Row (T : TX K mg) : PySem.W.kitOne K (.type "int") (.ref (He.ga K ("Row" : Str))) = some false := kitT_of (T.c.fact 58)
theorem t_bool_Row (T : TX K mg) : PySem.W.kitOne K (.type "bool") (.ref (He.ga K ("Row" : Str))) = some false := kitT_of (T.c.fact 59)
theorem t_list_Row (T : TX K mg) : PySem.W.kitOne K (.type "list") (.ref (He.ga K ("Row" : Str))) = some false := kitT_of (T.c.fact 60)
theorem t_str_Row (T : TX K mg) : PySem.W.kitOne K (.type "str") (.ref (He.ga K ("Row" : Str))) = some false := kitT_of (T.c.fact 61)
theorem t_tuple_Row (T : TX K mg) : PySem.W.kitOne K (.type "tuple") (.ref (He.ga K ("Row" : Str))) = some false := kitT_of (T.c.fact 62)
theorem t_dict_Row (T : TX K mg) : PySem.W.kitOne K (.type "dict") (.ref (He.ga K ("Row" : Str))) = some false := kitT_of (T.c.fact 63)
theorem t_NoneType_Row (T : TX K mg) : PySem.W.kitOne K (.type "NoneType") (.ref (He.ga K ("Row" : Str))) = some false := kitT_of (T.c.fact 64)
theorem k_Row_Row (T : TX K mg) : PySem.W.kitOne K (.ref (He.ga K ("Row" : Str))) (.ref (He.ga K ("Row" : Str))) = some true := kit_of' (T.c.fact 65)
theorem k_Row_Flip (T : TX K mg) : PySem.W.kitOne K (.ref (He.ga K ("Row" : Str))) (.ref (He.ga K ("Flip" : Str))) = some false := kit_of' (T.c.fact 66)
theorem c_Flip (T : TX K mg) : Cls K (He.ga K ("Flip" : Str)) := cls_of (T.c.fact 67)
theorem i_Flip (T : TX K mg) : InsF K (He.ga K ("Flip" : Str)) := ins_of (T.c.fact 68)
theorem k_Flip (T : TX K mg) : Mk K (He.ga K ("Flip" : Str)) (He.ma K (He.ga K ("Flip" : Str)) "__init__") := mkr_of (T.c.fact 69)
theorem n_Flip_begin (T : TX K mg) : NoAttr K (He.ga K ("Flip" : Str)) ("begin" : Str) := noat_of (T.c.fact 70)
theorem n_Flip_finish (T : TX K mg) : NoAttr K (He.ga K ("Flip" : Str)) ("finish" : Str) := noat_of (T.c.fact 71)
theorem h_Flip_init (T : TX K mg) : Meth K (He.ga K ("Flip" : Str)) ("__init__" : Str) (He.ma K (He.ga K ("Flip" : Str)) ("__init__" : Str)) := meth_of (T.c.fact 72)
theorem p_Flip_start (T : TX K mg) : PropOf K (He.ga K ("Flip" : Str)) ("start" : Str) (He.ma K (He.ga K ("Flip" : Str)) ("start" : Str)) (pga K ("Flip" : Str) ("start" : Str)) := prop_of (T.c.fact 73)
theorem p_Flip_end (T : TX K mg) : PropOf K (He.ga K ("Flip" : Str)) ("end" : Str) (He.ma K (He.ga K ("Flip" : Str)) ("end" : Str)) (pga K ("Flip" : Str) ("end" : Str)) := prop_of (T.c.fact 74)
theorem h_Flip_eq (T : TX K mg) : Meth K (He.ga K ("Flip" : Str)) ("__eq__" : Str) (He.ma K (He.ga K ("Flip" : Str)) ("__eq__" : Str)) := meth_of (T.c.fact 75)
theorem h_Flip_check (T : TX K mg) : Meth K (He.ga K ("Flip" : Str)) ("check" : Str) (He.ma K (He.ga K ("Flip" : Str)) ("check" : Str)) := meth_of (T.c.fact 76)
theorem h_Flip_call (T : TX K mg) : Meth K (He.ga K ("Flip" : Str)) ("__call__" : Str) (He.ma K (He.ga K ("Flip" : Str)) ("__call__" : Str)) := meth_of (T.c.fact 77)
theorem h_Flip_is_whole (T : TX K mg) : Meth K (He.ga K ("Flip" : Str)) ("is_whole" : Str) (He.ma K (He.ga K ("Flip" : Str)) ("is_whole" : Str)) := meth_of (T.c.fact 78)
theorem h_Flip_change (T : TX K mg) : Meth K (He.ga K ("Flip" : Str)) ("change" : Str) (He.ma K (He.ga K ("Flip" : Str)) ("change" : Str)) := meth_of (T.c.fact 79)
theorem ne_Flip (T : TX K mg) : PySem.W.findIn K (.ref (He.ga K ("Flip" : Str))) "__ne__" = some (some (.builtin "object.__ne__")) ∧ PySem.W.subIn K (.ref (He.ga K ("Flip" : Str))) (.type "object") = some true := ne_of' (T.c.fact 80)
theorem nf_NoneType_Flip (T : TX K mg) : PySem.W.notFirst K (He.ga K ("Flip" : Str)) (.type "NoneType") = true := nsub_of (T.c.fact 81)
theorem nf_int_Flip (T : TX K mg) : PySem.W.notFirst K (He.ga K ("Flip" : Str)) (.type "int") = true := nsub_of (T.c.fact 82)
theorem nf_bool_Flip (T : TX K mg) : PySem.W.notFirst K (He.ga K ("Flip" : Str)) (.type "bool") = true := nsub_of (T.c.fact 83)
theorem nf_list_Flip (T : TX K mg) : PySem.W.notFirst K (He.ga K ("Flip" : Str)) (.type "list") = true := nsub_of (T.c.fact 84)
theorem nf_str_Flip (T : TX K mg) : PySem.W.notFirst K (He.ga K ("Flip" : Str)) (.type "str") = true := nsub_of (T.c.fact 85)
theorem nf_tuple_Flip (T : TX K mg) : PySem.W.notFirst K (He.ga K ("Flip" : Str)) (.type "tuple") = true := nsub_of (T.c.fact 86)
theorem nf_dict_Flip (T : TX K mg) : PySem.W.notFirst K (He.ga K ("Flip" : Str)) (.type "dict") = true := nsub_of (T.c.fact 87)
theorem nf_Row_Flip (T : TX K mg) : PySem.W.notFirst K (He.ga K ("Flip" : Str)) (.ref (He.ga K ("Row" : Str))) = true := nsubC_of (T.c.fact 88)
theorem o_Flip_int (T : TX K mg) : PySem.W.kitOne K (.ref (He.ga K ("Flip" : Str))) (.type "int") = some false := kitO_of (T.c.fact 89)
theorem o_Flip_bool (T : TX K mg) : PySem.W.kitOne K (.ref (He.ga K ("Flip" : Str))) (.type "bool") = some false := kitO_of (T.c.fact 90)
theorem o_Flip_list (T : TX K mg) : PySem.W.kitOne K (.ref (He.ga K ("Flip" : Str))) (.type "list") = some false := kitO_of (T.c.fact 91)
theorem o_Flip_str (T : TX K mg) : PySem.W.kitOne K (.ref (He.ga K ("Flip" : Str))) (.type "str") = some false := kitO_of (T.c.fact 92)
theorem o_Flip_tuple (T : TX K mg) : PySem.W.kitOne K (.ref (He.ga K ("Flip" : Str))) (.type "tuple") = some false := kitO_of (T.c.fact 93)
theorem o_Flip_dict (T : TX K mg) : PySem.W.kitOne K (.ref (He.ga K ("Flip" : Str))) (.type "dict") = some false := kitO_of (T.c.fact 94)
theorem t_int_Flip (T : TX K mg) : PySem.W.kitOne K (.type "int") (.ref (He.ga K ("Flip" : Str))) = some false := kitT_of (T.c.fact 95)
theorem t_bool_Flip (T : TX K mg) : PySem.W.kitOne K (.type "bool") (.ref (He.ga K ("Flip" : Str))) = some false := kitT_of (T.c.fact 96)
theorem t_list_Flip (T : TX K mg) : PySem.W.kitOne K (.type "list") (.ref (He.ga K ("Flip" : Str))) = some false := kitT_of (T.c.fact 97)
theorem t_str_Flip (T : TX K mg) : PySem.W.kitOne K (.type "str") (.ref (He.ga K ("Flip" : Str))) = some false := kitT_of (T.c.fact 98)
theorem t_tuple_Flip (T : TX K mg) : PySem.W.kitOne K (.type "tuple") (.ref (He.ga K ("Flip" : Str))) = some false := kitT_of (T.c.fact 99)
theorem t_dict_Flip (T : TX K mg) : PySem.W.kitOne K (.type "dict") (.ref (He.ga K ("Flip" : Str))) = some false := kitT_of (T.c.fact 100)
theorem t_NoneType_Flip (T : TX K mg) : PySem.W.kitOne K (.type "NoneType") (.ref (He.ga K ("Flip" : Str))) = some false := kitT_of (T.c.fact 101)
theorem k_Flip_Row (T : TX K mg) : PySem.W.kitOne K (.ref (He.ga K ("Flip" : Str))) (.ref (He.ga K ("Row" : Str))) = some false := kit_of' (T.c.fact 102)
theorem k_Flip_Flip (T : TX K mg) : PySem.W.kitOne K (.ref (He.ga K ("Flip" : Str))) (.ref (He.ga K ("Flip" : Str))) = some true := kit_of' (T.c.fact 103)
theorem e_FlipError (T : TX K mg) : ExcF K (He.ga K ("FlipError" : Str)) [.type "ValueError", .type "Exception", .type "BaseException", .type "object"] "ValueError.__new__" := exc_of (T.c.fact 104)
theorem ec_FlipError (T : TX K mg) : ExcC K (He.ga K ("FlipError" : Str)) := excC_of (T.c.fact 105)
theorem e_InvalidFlip (T : TX K mg) : ExcF K (He.ga K ("InvalidFlip" : Str)) [.type "ValueError", .type "Exception", .type "BaseException", .type "object"] "ValueError.__new__" := exc_of (T.c.fact 106)
theorem ec_InvalidFlip (T : TX K mg) : ExcC K (He.ga K ("InvalidFlip" : Str)) := excC_of (T.c.fact 107)
theorem x_FlipError_InvalidFlip (T : TX K mg) : PySem.W.exmOne K (.ref (He.ga K ("FlipError" : Str))) (.ref (He.ga K ("InvalidFlip" : Str))) = some false := exm_of' (T.c.fact 108)
theorem x_InvalidFlip_InvalidFlip (T : TX K mg) : PySem.W.exmOne K (.ref (He.ga K ("InvalidFlip" : Str))) (.ref (He.ga K ("InvalidFlip" : Str))) = some true := exm_of' (T.c.fact 109)
theorem k_FlipError_FlipError (T : TX K mg) : PySem.W.kitOne K (.ref (He.ga K ("FlipError" : Str))) (.ref (He.ga K ("FlipError" : Str))) = some true := kit_of' (T.c.fact 110)
theorem k_FlipError_InvalidFlip (T : TX K mg) : PySem.W.kitOne K (.ref (He.ga K ("FlipError" : Str))) (.ref (He.ga K ("InvalidFlip" : Str))) = some false := kit_of' (T.c.fact 111)
theorem k_InvalidFlip_FlipError (T : TX K mg) : PySem.W.kitOne K (.ref (He.ga K ("InvalidFlip" : Str))) (.ref (He.ga K ("FlipError" : Str))) = some true := kit_of' (T.c.fact 112)
theorem k_InvalidFlip_InvalidFlip (T : TX K mg) : PySem.W.kitOne K (.ref (He.ga K ("InvalidFlip" : Str))) (.ref (He.ga K ("InvalidFlip" : Str))) = some true := kit_of' (T.c.fact 113)
theorem mk_is_count {sp : Sp} (T : TX K mg) (len : ∀ vs H Q E, sp vs H Q E → vs.length = 1)
    (hb : ∀ (X : Cx) (vs : List V) (H : Hp) (Q : VK) (E : XK), Ctx P w K mg base k X (fun cls d _ H => E cls d H) → sp vs H Q E → r_is_count X (fun cls d _ H => E cls d H) { nx := fun _ H' => Q .non H', rt := Q } (start N_is_count vs) H) :
    FnS P w K mg base (He.ga K ("is_count" : Str)) (k + 1) [("candidate" : Str)] sp := by
  obtain ⟨fd, F⟩ := T.c.def_ 0
  exact fn_ok F sc_is_count (fun _ _ _ _ _ _ us hl => match us, hl with | [_], _ => rfl) len _ 60 q_is_count hb
theorem mk_Flip_init {sp : Sp} (T : TX K mg) (len : ∀ vs H Q E, sp vs H Q E → vs.length = 3)
    (hb : ∀ (X : Cx) (vs : List V) (H : Hp) (Q : VK) (E : XK), Ctx P w K mg base k X (fun cls d _ H => E cls d H) → sp vs H Q E → r_Flip_init X (fun cls d _ H => E cls d H) { nx := fun _ H' => Q .non H', rt := Q } (start N_Flip_init vs) H) :
    FnS P w K mg base (He.ma K (He.ga K ("Flip" : Str)) ("__init__" : Str)) (k + 1) [("self" : Str), ("start" : Str), ("end" : Str)] sp := by
  obtain ⟨fd, F⟩ := T.c.def_ 1
  exact fn_ok F sc_Flip_init (fun _ _ _ _ _ _ us hl => match us, hl with | [_, _, _], _ => rfl) len _ 60 q_Flip_init hb
theorem mk_Flip_start {sp : Sp} (T : TX K mg) (len : ∀ vs H Q E, sp vs H Q E → vs.length = 1)
    (hb : ∀ (X : Cx) (vs : List V) (H : Hp) (Q : VK) (E : XK), Ctx P w K mg base k X (fun cls d _ H => E cls d H) → sp vs H Q E → r_Flip_start X (fun cls d _ H => E cls d H) { nx := fun _ H' => Q .non H', rt := Q } (start N_Flip_start vs) H) :
    FnS P w K mg base (pga K ("Flip" : Str) ("start" : Str)) (k + 1) [("self" : Str)] sp := by
  obtain ⟨fd, F⟩ := T.c.def_ 2
  exact fn_ok F sc_Flip_start (fun _ _ _ _ _ _ us hl => match us, hl with | [_], _ => rfl) len _ 60 q_Flip_start hb
theorem mk_Flip_end {sp : Sp} (T : TX K mg) (len : ∀ vs H Q E, sp vs H Q E → vs.length = 1)
    (hb : ∀ (X : Cx) (vs : List V) (H : Hp) (Q : VK) (E : XK), Ctx P w K mg base k X (fun cls d _ H => E cls d H) → sp vs H Q E → r_Flip_end X (fun cls d _ H => E cls d H) { nx := fun _ H' => Q .non H', rt := Q } (start N_Flip_end vs) H) :
    FnS P w K mg base (pga K ("Flip" : Str) ("end" : Str)) (k + 1) [("self" : Str)] sp := by
  obtain ⟨fd, F⟩ := T.c.def_ 3
  exact fn_ok F sc_Flip_end (fun _ _ _ _ _ _ us hl => match us, hl with | [_], _ => rfl) len _ 60 q_Flip_end hb
theorem mk_Flip_eq {sp : Sp} (T : TX K mg) (len : ∀ vs H Q E, sp vs H Q E → vs.length = 2)
    (hb : ∀ (X : Cx) (vs : List V) (H : Hp) (Q : VK) (E : XK), Ctx P w K mg base k X (fun cls d _ H => E cls d H) → sp vs H Q E → r_Flip_eq X (fun cls d _ H => E cls d H) { nx := fun _ H' => Q .non H', rt := Q } (start N_Flip_eq vs) H) :
    FnS P w K mg base (He.ma K (He.ga K ("Flip" : Str)) ("__eq__" : Str)) (k + 1) [("self" : Str), ("other" : Str)] sp := by
  obtain ⟨fd, F⟩ := T.c.def_ 4
  exact fn_ok F sc_Flip_eq (fun _ _ _ _ _ _ us hl => match us, hl with | [_, _], _ => rfl) len _ 60 q_Flip_eq hb
theorem mk__law_stream {sp : Sp} (T : TX K mg) (len : ∀ vs H Q E, sp vs H Q E → vs.length = 2)
    (hb : ∀ (X : Cx) (vs : List V) (H : Hp) (Q : VK) (E : XK), Ctx P w K mg base k X (fun cls d _ H => E cls d H) → sp vs H Q E → r__law_stream X (fun cls d _ H => E cls d H) { nx := fun _ H' => Q .non H', rt := Q } (start N__law_stream vs) H) :
    FnS P w K mg base (He.ga K ("_law_stream" : Str)) (k + 1) [("_law_script" : Str), ("_law_k" : Str)] sp := by
  obtain ⟨fd, F⟩ := T.c.def_ 5
  exact fn_ok F sc__law_stream (fun _ _ _ _ _ _ us hl => match us, hl with | [_, _], _ => rfl) len _ 60 q__law_stream hb
theorem mk__law_draw {sp : Sp} (T : TX K mg) (len : ∀ vs H Q E, sp vs H Q E → vs.length = 2)
    (hb : ∀ (X : Cx) (vs : List V) (H : Hp) (Q : VK) (E : XK), Ctx P w K mg base k X (fun cls d _ H => E cls d H) → sp vs H Q E → r__law_draw X (fun cls d _ H => E cls d H) { nx := fun _ H' => Q .non H', rt := Q } (start N__law_draw vs) H) :
    FnS P w K mg base (He.ga K ("_law_draw" : Str)) (k + 1) [("_law_stream_here" : Str), ("_law_count" : Str)] sp := by
  obtain ⟨fd, F⟩ := T.c.def_ 6
  exact fn_ok F sc__law_draw (fun _ _ _ _ _ _ us hl => match us, hl with | [_, _], _ => rfl) len _ 60 q__law_draw hb
theorem mk__law_raises {sp : Sp} (T : TX K mg) (len : ∀ vs H Q E, sp vs H Q E → vs.length = 2)
    (hb : ∀ (X : Cx) (vs : List V) (H : Hp) (Q : VK) (E : XK), Ctx P w K mg base k X (fun cls d _ H => E cls d H) → sp vs H Q E → r__law_raises X (fun cls d _ H => E cls d H) { nx := fun _ H' => Q .non H', rt := Q } (start N__law_raises vs) H) :
    FnS P w K mg base (He.ga K ("_law_raises" : Str)) (k + 1) [("_law_start" : Str), ("_law_end" : Str)] sp := by
  obtain ⟨fd, F⟩ := T.c.def_ 7
  exact fn_ok F sc__law_raises (fun _ _ _ _ _ _ us hl => match us, hl with | [_, _], _ => rfl) len _ 60 q__law_raises hb
theorem mk_law {sp : Sp} (T : TX K mg) (len : ∀ vs H Q E, sp vs H Q E → vs.length = 1)
    (hb : ∀ (base : Heap) (X : Cx) (vs : List V) (H : Hp) (Q : VK) (E : XK), Ctx P w K mg base k X (fun cls d _ H => E cls d H) → sp vs H Q E → r_law X (fun cls d _ H => E cls d H) { nx := fun _ H' => Q .non H', rt := Q } (start N_law vs) H) :
    FnL P w K mg (He.ga K "law") (k + 1) ("_law_script" : Str) sp := by
  obtain ⟨fd, F⟩ := T.c.def_ 8
  exact fn_okL F sc_law (fun _ _ _ _ _ _ us hl => match us, hl with | [_], _ => rfl) len _ 60 q_law hb
theorem g0_law : ∀ K : PySem.W.Frag, SaysV fa fn K → fGlo ("law" : Str) K = true := fun K c => c.fact 114
end

/-- one step of a reading that asks nothing -/
local macro_rules | `(tactic| walk_at "v1") => `(tactic| first
  | with_reducible refine s_seq ?_
  | with_reducible refine s_asg ?_
  | with_reducible refine s_gname ?_
  | with_reducible refine s_ret ?_
  | with_reducible refine s_ifS ?_
  | with_reducible refine s_c ?_
  | with_reducible refine s_bin ?_
  | with_reducible refine s_tru ?_
  | with_reducible refine s_cons ?_
  | with_reducible refine s_nil ?_
  | with_reducible refine s_atr ?_
  | with_reducible refine s_ix ?_
  | with_reducible refine s_not ?_
  | with_reducible refine s_and ?_
  | with_reducible refine s_or ?_
  | with_reducible refine s_andE ?_
  | with_reducible refine s_orE ?_
  | with_reducible refine s_uny ?_
  | with_reducible refine s_ifx ?_
  | with_reducible refine s_ch ?_
  | with_reducible refine s_test ?_
  | with_reducible refine s_tup ?_
  | with_reducible refine s_lst ?_
  | with_reducible refine s_drop ?_
  | with_reducible refine s_next ?_
  | with_reducible refine s_satr ?_
  | with_reducible refine s_gix ?_
  | with_reducible refine s_par ?_
  | with_reducible refine s_slc ?_
  | with_reducible refine s_nopart ?_
  | with_reducible refine s_part ?_
  | with_reducible refine s_mth ?_
  | with_reducible refine s_ifT ?_
  | with_reducible refine s_augS ?_
  | with_reducible refine s_retN ?_
  | with_reducible refine s_brk ?_
  | with_reducible refine s_cont ?_
  | with_reducible refine nx_mk ?_
  | with_reducible refine ct_mk ?_
  | with_reducible refine bk_mk ?_
  | with_reducible refine rt_mk ?_
  | with_reducible refine iteT ?_
  | with_reducible refine iteF ?_
  | with_reducible refine s_nf ?_
  | with_reducible refine s_nt ?_
  | with_reducible refine tru_b ?_
  | with_reducible refine add_ii ?_
  | with_reducible refine sub_ii ?_
  | with_reducible refine neg_i ?_
  | with_reducible refine lt_ii ?_
  | with_reducible refine le_ii ?_
  | with_reducible refine gt_ii ?_
  | with_reducible refine ge_ii ?_
  | with_reducible refine eq_ii ?_
  | with_reducible refine ne_ii ?_
  | with_reducible refine not_b ?_
  | ((with_reducible refine' s_var ?h ?_); (case h => rfl)))
local macro_rules | `(tactic| walk_at "v") => `(tactic| first
  | walk_at "v1"
  | ((with_reducible refine' s_call (g_Flip ?T ?C) ?_); (case T => assumption); (case C => assumption))
  | ((with_reducible refine' s_gloR (g_Flip ?T ?C) ?_); (case T => assumption); (case C => assumption))
  | ((with_reducible refine' s_rai (g_FlipError ?T ?C) ?_); (case T => assumption); (case C => assumption))
  | ((with_reducible refine' s_gloR (g_FlipError ?T ?C) ?_); (case T => assumption); (case C => assumption))
  | ((with_reducible refine' s_rai (g_InvalidFlip ?T ?C) ?_); (case T => assumption); (case C => assumption))
  | ((with_reducible refine' s_gloR (g_InvalidFlip ?T ?C) ?_); (case T => assumption); (case C => assumption))
  | ((with_reducible refine' s_call (g__law_draw ?T ?C) ?_); (case T => assumption); (case C => assumption))
  | ((with_reducible refine' s_call (g__law_raises ?T ?C) ?_); (case T => assumption); (case C => assumption))
  | ((with_reducible refine' s_call (g__law_stream ?T ?C) ?_); (case T => assumption); (case C => assumption))
  | ((with_reducible refine' s_call (g_bool ?T ?C) ?_); (case T => assumption); (case C => assumption))
  | ((with_reducible refine' s_gloT (g_bool ?T ?C) ?_); (case T => assumption); (case C => assumption))
  | ((with_reducible refine' s_call (g_int ?T ?C) ?_); (case T => assumption); (case C => assumption))
  | ((with_reducible refine' s_gloT (g_int ?T ?C) ?_); (case T => assumption); (case C => assumption))
  | ((with_reducible refine' s_call (g_is_count ?T ?C) ?_); (case T => assumption); (case C => assumption))
  | ((with_reducible refine' s_call (g_isinstance ?T ?C) ?_); (case T => assumption); (case C => assumption))
  | ((with_reducible refine' s_call (g_len ?T ?C) ?_); (case T => assumption); (case C => assumption))
  | ((with_reducible refine' s_call (g_max ?T ?C) ?_); (case T => assumption); (case C => assumption))
  | ((with_reducible refine' s_call (g_min ?T ?C) ?_); (case T => assumption); (case C => assumption))
  | ((with_reducible refine' s_call (g_range ?T ?C) ?_); (case T => assumption); (case C => assumption))
  | ((with_reducible refine' s_gloT (g_range ?T ?C) ?_); (case T => assumption); (case C => assumption)))

section
variable {P : Program} {w : World} {K : PySem.W.Frag} {mg : Str → Option Value} {base : Heap}
/-! ### counts -/
def isCnt : V → Bool
  | .int i => decide (0 ≤ i)
  | _ => false
def numV : V → Bool
  | .int _ => true
  | .bl _ => true
  | _ => false
/-- whether a value is an int can be told -/
structure NumK (K : PySem.W.Frag) (H : Hp) (x : V) (t : Value) : Prop where
  ty : TyX K H x t
  no : numV x = false → PySem.W.kitOne K t (.type "int") = some false
theorem NumK.same {H H' : Hp} {x : V} {t : Value} (n : NumK K H x t) (s : Same H H') : NumK K H' x t := ⟨Same_ty s n.ty, n.no⟩
theorem NumK.int {H : Hp} {i : Int} : NumK K H (.int i) (.type "int") := ⟨.base (.int i), fun h => by cases h⟩
theorem ty_int {H : Hp} {i : Int} {t : Value} (h : TyX K H (.int i) t) : t = .type "int" := by
  cases h with
  | base h => cases h; rfl
theorem ty_bl {H : Hp} {b : Bool} {t : Value} (h : TyX K H (.bl b) t) : t = .type "bool" := by
  cases h with
  | base h => cases h; rfl
def spIsCount (K : PySem.W.Frag) : Sp := fun vs H Q _ => ∃ x t, vs = [x] ∧ NumK K H x t ∧ Q (.bl (isCnt x)) H
theorem ok_is_count (T : TX K mg) : FnS P w K mg base (He.ga K "is_count") 1 ["candidate"] (spIsCount K) := by
  refine mk_is_count T (fun vs H Q E h => ?_) (fun X vs H Q E C h => ?_)
  · obtain ⟨x, t, rfl, _⟩ := h
    rfl
  obtain ⟨x, t, rfl, nk, q⟩ := h
  unfold r_is_count
  repeat walk_at "v"
  have odd : numV x = false → isCnt x = false := fun h => by cases x <;> first | rfl | cases h
  cases hn : numV x with
  | false =>
    refine isi C (.ty _) nk.ty (nk.no hn) ?_
    repeat walk_at "v"
    rw [odd hn] at q
    exact q
  | true =>
    cases x with
    | int i =>
      obtain rfl := ty_int nk.ty
      refine isi C (.ty _) nk.ty (kit_ty (r := true) (by decide +kernel)) ?_
      repeat walk_at "v"
      refine isi C (.ty _) nk.ty (kit_ty (r := false) (by decide +kernel)) ?_
      repeat walk_at "v"
      exact q
    | bl b =>
      obtain rfl := ty_bl nk.ty
      refine isi C (.ty _) nk.ty (kit_ty (r := true) (by decide +kernel)) ?_
      repeat walk_at "v"
      refine isi C (.ty _) nk.ty (kit_ty (r := true) (by decide +kernel)) ?_
      repeat walk_at "v"
      exact q
    | _ => cases hn

/-! ### flips -/
def okFlip : V → V → Bool
  | .int i, .int j => decide (0 ≤ i) && (decide (0 ≤ j) && decide (i < j))
  | _, _ => false
theorem okFlip_l {x y : V} (h : isCnt x = false) : okFlip x y = false := by
  cases x <;> cases y <;> first
    | rfl
    | (simp only [isCnt, decide_eq_false_iff_not] at h
       simp only [okFlip, Bool.and_eq_false_iff, decide_eq_false_iff_not]
       omega)
theorem okFlip_r {x y : V} (h : isCnt y = false) : okFlip x y = false := by
  cases x <;> cases y <;> first
    | rfl
    | (simp only [isCnt, decide_eq_false_iff_not] at h
       simp only [okFlip, Bool.and_eq_false_iff, decide_eq_false_iff_not]
       omega)
def flF (i j : Int) : List (Str × V) := [("begin", .int i), ("finish", .int j)]
abbrev cFlip (K : PySem.W.Frag) : Addr := He.ga K "Flip"
def FlipAt (K : PySem.W.Frag) (H : Hp) (p : Addr) (i j : Int) : Prop := ∃ dx, H p = some (.ins (cFlip K) dx (flF i j))
theorem FlipAt.same {H H' : Hp} {p : Addr} {i j : Int} (h : FlipAt K H p i j) (s : Same H H') : FlipAt K H' p i j := let ⟨dx, h⟩ := h; ⟨dx, s _ _ h⟩
def spFlipInit (K : PySem.W.Frag) : Sp := fun vs H Q E => ∃ p dx x y tx ty, vs = [.ref p, x, y] ∧ H p = some (.ins (cFlip K) dx []) ∧ NumK K H x tx ∧ NumK K H y ty ∧
  (∀ i j, x = .int i → y = .int j → okFlip x y = true → Q .non (upd H p (.ins (cFlip K) dx (flF i j)))) ∧ (okFlip x y = false → E (.ref (He.ga K "InvalidFlip")) none H)
theorem ok_Flip_init (T : TX K mg) : FnS P w K mg base (He.ma K (cFlip K) "__init__") 2 ["self", "start", "end"] (spFlipInit K) := by
  refine mk_Flip_init T (fun vs H Q E h => ?_) (fun X vs H Q E C h => ?_)
  · obtain ⟨p, dx, x, y, tx, ty, rfl, _⟩ := h
    rfl
  obtain ⟨p, dx, x, y, tx, ty, rfl, hp, nx, ny, h1, h2⟩ := h
  unfold r_Flip_init
  have bad : okFlip x y = false → MkV X (.ref (He.ga K "InvalidFlip")) [.str "two places are required"] (L2.start N_Flip_init [.ref p, x, y]) H fun cls d H' => E cls d H' := fun hb =>
    mk_own C PySem.F.excBase_ValueError (e_InvalidFlip T).i (e_InvalidFlip T).s (e_InvalidFlip T).t (h2 hb)
  repeat walk_at "v"
  refine cv_fn C (ok_is_count T) (by omega) ⟨x, tx, rfl, nx, ?_⟩
  repeat walk_at "v"
  cases cx : isCnt x with
  | false =>
    repeat walk_at "v"
    exact bad (okFlip_l cx)
  | true =>
    repeat walk_at "v"
    refine cv_fn C (ok_is_count T) (by omega) ⟨y, ty, rfl, ny, ?_⟩
    repeat walk_at "v"
    cases cy : isCnt y with
    | false =>
      repeat walk_at "v"
      exact bad (okFlip_r cy)
    | true =>
      repeat walk_at "v"
      obtain ⟨i, rfl, hi⟩ : ∃ i, x = .int i ∧ 0 ≤ i := by cases x <;> simp_all [isCnt]
      obtain ⟨j, rfl, hj⟩ : ∃ i, y = .int i ∧ 0 ≤ i := by cases y <;> simp_all [isCnt]
      repeat walk_at "v"
      refine s_ite (fun c => ?_) (fun c => ?_)
      · repeat walk_at "v"
        refine bad ?_
        simp only [okFlip, Bool.and_eq_false_iff, decide_eq_false_iff_not]
        omega
      · repeat walk_at "v"
        refine set_fld C hp (c_Flip T) (n_Flip_begin T) (by decide) ?_
        repeat walk_at "v"
        refine set_fld C upd_same (c_Flip T) (n_Flip_finish T) (by show 1 < 1000; decide) ?_
        rw [upd_upd]
        refine h1 i j rfl rfl ?_
        simp only [okFlip, Bool.and_eq_true, decide_eq_true_eq]
        omega
def spFlipGet (K : PySem.W.Frag) (r : Int → Int → Int) : Sp := fun vs H Q _ => ∃ p i j, vs = [.ref p] ∧ FlipAt K H p i j ∧ Q (.int (r i j)) H
theorem ok_Flip_start (T : TX K mg) : FnS P w K mg base (pga K "Flip" "start") 1 ["self"] (spFlipGet K fun i _ => i) := by
  refine mk_Flip_start T (fun vs H Q E h => ?_) (fun X vs H Q E C h => ?_)
  · obtain ⟨p, i, j, rfl, _⟩ := h
    rfl
  obtain ⟨p, i, j, rfl, ⟨dx, hp⟩, q⟩ := h
  unfold r_Flip_start
  repeat walk_at "v"
  exact atr_fld C hp (c_Flip T) (n_Flip_begin T) (by kernel_rfl) q
theorem ok_Flip_end (T : TX K mg) : FnS P w K mg base (pga K "Flip" "end") 1 ["self"] (spFlipGet K fun _ j => j) := by
  refine mk_Flip_end T (fun vs H Q E h => ?_) (fun X vs H Q E C h => ?_)
  · obtain ⟨p, i, j, rfl, _⟩ := h
    rfl
  obtain ⟨p, i, j, rfl, ⟨dx, hp⟩, q⟩ := h
  unfold r_Flip_end
  repeat walk_at "v"
  exact atr_fld C hp (c_Flip T) (n_Flip_finish T) (by kernel_rfl) q
/-- == of a flip and a value -/
def eqFl (K : PySem.W.Frag) (H : Hp) (i j : Int) (y : V) (r : Bool) : Prop := (∃ q i' j', y = .ref q ∧ FlipAt K H q i' j' ∧ r = (decide (i = i') && decide (j = j'))) ∨
  (∃ t, TyX K H y t ∧ PySem.W.kitOne K t (.ref (cFlip K)) = some false ∧ r = false)
def spFlipEq (K : PySem.W.Frag) : Sp := fun vs H Q _ => ∃ p i j y r, vs = [.ref p, y] ∧ FlipAt K H p i j ∧ eqFl K H i j y r ∧ Q (.bl r) H
theorem ok_Flip_eq (T : TX K mg) : FnS P w K mg base (He.ma K (cFlip K) "__eq__") 1 ["self", "other"] (spFlipEq K) := by
  refine mk_Flip_eq T (fun vs H Q E h => ?_) (fun X vs H Q E C h => ?_)
  · obtain ⟨p, i, j, y, r, rfl, _⟩ := h
    rfl
  obtain ⟨p, i, j, y, r, rfl, ⟨dx, hp⟩, he, q⟩ := h
  unfold r_Flip_eq
  repeat walk_at "v"
  rcases he with ⟨b, i', j', rfl, ⟨dy, hb⟩, rfl⟩ | ⟨t, ty, kt, rfl⟩
  · refine isi C (.own _) ((i_Flip T).ty (c_Flip T) hb) (k_Flip_Flip T) ?_
    repeat walk_at "v"
    refine atr_fld C hp (c_Flip T) (n_Flip_begin T) (v := .int i) (by kernel_rfl) ?_
    repeat walk_at "v"
    refine atr_fld C hb (c_Flip T) (n_Flip_begin T) (v := .int i') (by kernel_rfl) ?_
    repeat walk_at "v"
    refine s_ite (fun e => ?_) (fun e => ?_)
    · repeat walk_at "v"
      refine atr_fld C hp (c_Flip T) (n_Flip_finish T) (v := .int j) (by kernel_rfl) ?_
      repeat walk_at "v"
      refine atr_fld C hb (c_Flip T) (n_Flip_finish T) (v := .int j') (by kernel_rfl) ?_
      repeat walk_at "v"
      rw [decide_eq_true e, Bool.true_and] at q
      exact q
    · rw [decide_eq_false e, Bool.false_and] at q
      show Q (.bl (decide (i = i'))) H
      rw [decide_eq_false e]
      exact q
  · refine isi C (.own _) ty kt ?_
    repeat walk_at "v"
    exact q
/-! ### draws -/
theorem b01 (c : Bool) : -(2 ^ 64) < (if c = true then (1 : Int) else 0) ∧ (if c = true then (1 : Int) else 0) < 2 ^ 64 := by cases c <;> decide
theorem small_div {j : Int} (h : j.natAbs < 2 ^ 250) : j.natAbs < 2 ^ 9000 := Nat.lt_of_lt_of_le h (Nat.pow_le_pow_right (by decide) (by decide))
/-- a stream of draws stands at l -/
def Str2 (H : Hp) (l : Addr) : Prop := ∃ a b : Int, H l = some (.lst [.int a, .int b]) ∧ 0 ≤ b ∧ b < 2147483648
theorem Str2.upd {H : Hp} {l p : Addr} {o : HO} (h : Str2 H l) (n : p ≠ l) : Str2 (L2.upd H p o) l := let ⟨a, b, e, h⟩ := h; ⟨a, b, by rw [upd_ne (Ne.symm n)]; exact e, h⟩
def spStream (K : PySem.W.Frag) : Sp := fun vs H Q _ => ∃ (a : Addr) (ns : List Int) (k : Nat), vs = [.ref a, .int k] ∧ SqL K H a (ns.map V.int) ∧ k < 64 ∧ ∀ p H', H p = none → Same H H' → Str2 H' p → Q (.ref p) H'
theorem ok__law_stream (T : TX K mg) : FnS P w K mg base (He.ga K "_law_stream") 1 ["_law_script", "_law_k"] (spStream K) := by
  refine mk__law_stream T (fun vs H Q E h => ?_) (fun X vs H Q E C h => ?_)
  · obtain ⟨a, ns, k, rfl, _⟩ := h
    rfl
  obtain ⟨a, ns, k, rfl, hS, hk, q⟩ := h
  unfold r__law_stream
  -- what follows the choice of the cell, for every cell
  have rest : ∀ c : Int, (tSeq (tAsg (tCallG X ("max" : Str) (tCons (tVar 2) (tCons (tBin X (binaryOp .Sub) (tUny X (unaryOp .USub) (tC (.int 1))) (tVar 2)) tNil))) (gName 3))
      (tSeq (tAsg (tBin X (binaryOp .Mod) (tBin X (binaryOp .Mult) (tBin X (binaryOp .Add) (tBin X (binaryOp .Add) (tBin X (binaryOp .Add) (tBin X (binaryOp .Mod) (tVar 3) (tC (.int 2147483629))) (tBin X (binaryOp .Mult) (tBin X (binaryOp .Mult) (tC (.int 7919)) (tVar 1)) (tVar 1))) (tBin X (binaryOp .Mult) (tC (.int 31)) (tVar 1))) (tC (.int 17))) (tC (.int 48271))) (tC (.int 2147483647))) (gName 4))
      (tRet (tLst (tCons (tBin X (binaryOp .Mult) (tVar 3) (tCallG X ("int" : Str) (tCons (tBin X (compareOp .GtE) (tVar 3) (tBin X (binaryOp .Pow) (tC (.int 10)) (tC (.int 18)))) tNil))) (tCons (tVar 4) tNil)))))) { nx := fun _ H' => Q .non H', rt := Q } [some (.ref a), some (.int k), some (.int c), none, none] H := by
    intro c
    repeat walk_at "v"
    refine max_2 C ?_
    repeat walk_at "v"
    refine mod_ii (by decide) ?_
    repeat walk_at "v"
    refine mul_ii (.inl (by decide)) ?_
    repeat walk_at "v"
    refine mul_ii (.inr (by omega)) ?_
    repeat walk_at "v"
    refine mul_ii (.inl (by decide)) ?_
    repeat walk_at "v"
    refine mul_ii (.inr (by decide)) ?_
    repeat walk_at "v"
    refine mod_ii (by decide) ?_
    repeat walk_at "v"
    refine pow_ii (by unfold CPow; decide) ?_
    repeat walk_at "v"
    refine int_b ?_
    refine mul_ii (.inr (b01 _)) ?_
    repeat walk_at "v"
    refine ⟨by show 2 ≤ sizeLine; decide, fun p hp => ?_⟩
    exact q p _ hp (same_upd hp) ⟨_, _, upd_same, Int.emod_nonneg _ (by decide), Int.lt_trans (Int.emod_lt_of_pos _ (by decide)) (by decide)⟩
  repeat walk_at "v"
  refine len_l C hS ?_
  rw [List.length_map]
  repeat walk_at "v"
  refine s_ite (fun hl => ?_) (fun hl => ?_)
  · repeat walk_at "v"
    have hl' : k < ns.length := by omega
    refine ix_l C hS (at_of (j := k) (v := .int ns[k]) rfl (by rw [List.getElem?_map, List.getElem?_eq_getElem hl'] <;> rfl)) ?_
    exact rest _
  · exact rest _
def spDraw : Sp := fun vs H Q _ => ∃ (l : Addr) (n : Int), vs = [.ref l, .int n] ∧ Str2 H l ∧ 0 < n ∧ n.natAbs < 2 ^ 9000 ∧ ∀ (r : Int) H', 0 ≤ r → r < n → SameX l H H' → Str2 H' l → Q (.int r) H'
theorem ok__law_draw (T : TX K mg) : FnS P w K mg base (He.ga K "_law_draw") 1 ["_law_stream_here", "_law_count"] spDraw := by
  refine mk__law_draw T (fun vs H Q E h => ?_) (fun X vs H Q E C h => ?_)
  · obtain ⟨l, n, rfl, _⟩ := h
    rfl
  obtain ⟨l, n, rfl, ⟨a, b, hl, b0, b1⟩, n0, n1, q⟩ := h
  unfold r__law_draw
  repeat walk_at "v"
  refine ix_l C (.of hl) (v := .int a) rfl ?_
  repeat walk_at "v"
  refine s_ite (fun ha => ?_) (fun ha => ?_)
  · repeat walk_at "v"
    refine ix_l C (.of hl) (v := .int a) rfl ?_
    repeat walk_at "v"
    refine mod_ii n0 ?_
    repeat walk_at "v"
    refine ix_l C (.of hl) (v := .int a) rfl ?_
    repeat walk_at "v"
    refine div_ii n0 n1 ?_
    repeat walk_at "v"
    refine set_l (n := 0) hl rfl ?_
    repeat walk_at "v"
    exact q _ _ (Int.emod_nonneg _ (by omega)) (Int.emod_lt_of_pos _ n0) SameX.upd ⟨_, _, upd_same, b0, b1⟩
  · repeat walk_at "v"
    refine ix_l C (.of hl) (v := .int b) rfl ?_
    repeat walk_at "v"
    refine mul_ii (.inr (by decide)) ?_
    repeat walk_at "v"
    refine mod_ii (by decide) ?_
    repeat walk_at "v"
    refine set_l (n := 1) hl rfl ?_
    repeat walk_at "v"
    have d0 : 0 ≤ (b * 69621 + 7) % 2147483647 := Int.emod_nonneg _ (by decide)
    have d1 : (b * 69621 + 7) % 2147483647 < 2147483647 := Int.emod_lt_of_pos _ (by decide)
    refine ix_l C (.of upd_same) (v := .int ((b * 69621 + 7) % 2147483647)) rfl ?_
    repeat walk_at "v"
    refine ix_l C (.of upd_same) (v := .int ((b * 69621 + 7) % 2147483647)) rfl ?_
    repeat walk_at "v"
    refine mul_ii (.inl (by omega)) ?_
    repeat walk_at "v"
    refine mod_ii (by decide) ?_
    repeat walk_at "v"
    refine div_ii (by decide) (small_div (by decide)) ?_
    repeat walk_at "v"
    refine mod_ii n0 ?_
    exact q _ _ (Int.emod_nonneg _ (by omega)) (Int.emod_lt_of_pos _ n0) SameX.upd ⟨_, _, upd_same, d0, by omega⟩
end

section
variable {P : Program} {w : World} {K : PySem.W.Frag} {mg : Str → Option Value} {base : Heap} {k : Nat} {X : Cx} {W : WX} {σ : L2.St} {H : Hp} {Q : VK}
/-- Flip(x, y) -/
theorem new_Flip (T : TX K mg) (C : Ctx P w K mg base k X W) (hk : 3 ≤ k) {x y : V} {tx ty : Value} (nx : NumK K H x tx) (ny : NumK K H y ty)
    (h1 : ∀ i j, x = .int i → y = .int j → okFlip x y = true → ∀ p H', H p = none → Same H H' → FlipAt K H' p i j → Q (.ref p) H') (h2 : okFlip x y = false → ∀ H', Same H H' → W (.ref (He.ga K "InvalidFlip")) none σ H') :
    CV X (.ref (cFlip K)) [x, y] σ H Q := by
  refine cv_new C (k_Flip T) (ok_Flip_init T) hk fun p dx np nd nn => ?_
  have s : Same H (upd (upd H dx (.own p)) p (.ins (cFlip K) dx [])) := fun b o e => by
    rw [upd_ne (ne_of_none e np), upd_ne (ne_of_none e nd)]
    exact e
  refine ⟨p, dx, x, y, tx, ty, rfl, upd_same, nx.same s, ny.same s, fun i j ex ey ok => ⟨rfl, ?_⟩, fun no => h2 no _ s⟩
  refine h1 i j ex ey ok p _ np (fun b o e => ?_) ⟨dx, upd_same⟩
  rw [upd_ne (ne_of_none e np)]
  exact s _ _ e
theorem FlipAt.ty (T : TX K mg) {p : Addr} {i j : Int} (h : FlipAt K H p i j) : TyX K H (.ref p) (.ref (cFlip K)) := by
  obtain ⟨dx, h⟩ := h
  exact (i_Flip T).ty (c_Flip T) h
/-- flip == y -/
theorem eq_Flip (T : TX K mg) (C : Ctx P w K mg base k X W) (hk : 1 ≤ k) {p : Addr} {i j : Int} {y : V} {t : Value} {r : Bool} (h : FlipAt K H p i j) (ty : TyX K H y t) (nf : PySem.W.notFirst K (cFlip K) t = true) (e : eqFl K H i j y r) (q : Q (.bl r) H) :
    O2 X (compareOp .Eq) (.ref p) y σ H Q := by
  obtain ⟨dx, h⟩ := h
  exact eq_own C h (c_Flip T) (h_Flip_eq T) (ok_Flip_eq T) hk ty nf ⟨p, i, j, y, r, rfl, ⟨dx, h⟩, e, q⟩
theorem neq_Flip (T : TX K mg) (C : Ctx P w K mg base k X W) (hk : 2 ≤ k) {p : Addr} {i j : Int} {y : V} {t : Value} {r : Bool} (h : FlipAt K H p i j) (ty : TyX K H y t) (nf : PySem.W.notFirst K (cFlip K) t = true) (e : eqFl K H i j y r) (q : Q (.bl (!r)) H) :
    O2 X (compareOp .NotEq) (.ref p) y σ H Q := by
  obtain ⟨dx, h⟩ := h
  exact ne_own C h (c_Flip T) (h_Flip_eq T) (ok_Flip_eq T) hk ty nf (ne_Flip T).1 (ne_Flip T).2 ⟨p, i, j, y, r, rfl, ⟨dx, h⟩, e, r, rfl, q⟩
theorem eqFl.two {q : Addr} {i j i' j' : Int} (h : FlipAt K H q i' j') : eqFl K H i j (.ref q) (decide (i = i') && decide (j = j')) := .inl ⟨q, i', j', rfl, h, rfl⟩
end
section
variable {P : Program} {w : World} {K : PySem.W.Frag} {mg : Str → Option Value} {base : Heap}
def spRaises (K : PySem.W.Frag) : Sp := fun vs H Q _ => ∃ x y tx ty, vs = [x, y] ∧ NumK K H x tx ∧ NumK K H y ty ∧ ∀ H', Same H H' → Q (.bl (!okFlip x y)) H'
theorem ok__law_raises (T : TX K mg) : FnS P w K mg base (He.ga K "_law_raises") 4 ["_law_start", "_law_end"] (spRaises K) := by
  refine mk__law_raises T (fun vs H Q E h => ?_) (fun X vs H Q E C h => ?_)
  · obtain ⟨x, y, tx, ty, rfl, _⟩ := h
    rfl
  obtain ⟨x, y, tx, ty, rfl, nx, ny, q⟩ := h
  unfold r__law_raises
  repeat walk_at "v"
  refine s_tryA (g_InvalidFlip T C).name fun pn xe tk => ?_
  have C2 := C.tr tk
  repeat walk_at "v"
  refine new_Flip T C2 (by omega) nx ny (fun i j ex ey ok p H' np s _ => ?_) (fun no H' s => ?_)
  · repeat walk_at "v"
    have z := q H' s
    rw [ok] at z
    exact z
  · refine ⟨true, by rw [C.K]; exact x_InvalidFlip_InvalidFlip T, fun _ a ha => ?_, fun z => nomatch z⟩
    intro oe pn hz hf
    repeat walk_at "v"
    refine s_call (g_isinstance T C).suite ?_
    repeat walk_at "v"
    refine s_gloR (g_FlipError T C).suite ?_
    repeat walk_at "v"
    refine isi_exc C (ec_InvalidFlip T) hz hf (k_InvalidFlip_FlipError T) ?_
    have z := q H' s
    rw [no] at z
    exact z
/-- the odd values of the first loop -/
theorem odds (T : TX K mg) {H : Hp} {p q : Addr} {v : V} (hp : H p = some (.lst [v])) (hq : H q = some (.tup [v])) : ∀ x ∈ ([.non, .bl true, .bl false, .int (-1), .str "0", .ref p, .ref q] : List V), isCnt x = false ∧ ∃ t, NumK K H x t := by
  intro x hx
  simp only [List.mem_cons, List.not_mem_nil, or_false] at hx
  rcases hx with rfl | rfl | rfl | rfl | rfl | rfl | rfl
  · exact ⟨rfl, _, .base .non, fun _ => kit_ty (by decide +kernel)⟩
  · exact ⟨rfl, _, .base (.bl _), fun h => by cases h⟩
  · exact ⟨rfl, _, .base (.bl _), fun h => by cases h⟩
  · exact ⟨rfl, _, NumK.int⟩
  · exact ⟨rfl, _, .base (.str _), fun _ => kit_ty (by decide +kernel)⟩
  · exact ⟨rfl, _, .base (.lst hp), fun _ => kit_ty (by decide +kernel)⟩
  · exact ⟨rfl, _, .base (.tup hq), fun _ => kit_ty (by decide +kernel)⟩
def pairH (H' : Hp) (a1 a2 a3 a4 a5 a6 a7 : Addr) (r e : Int) : Hp := upd (upd (upd (upd (upd (upd (upd H' a1 (.tup [.int r, .int r])) a2 (.tup [.int e, .int r])) a3 (.tup [.int (e + 1), .int e])) a4 (.tup [.int (-2), .int (-1)])) a5 (.tup [.int 0, .int 0])) a6 (.tup [.non, .non])) a7 (.lst [.ref a1, .ref a2, .ref a3, .ref a4, .ref a5, .ref a6])
def spLaw (K : PySem.W.Frag) : Sp := fun vs H Q _ => ∃ (a : Addr) (ns : List Int), vs = [.ref a] ∧ SqL K H a (ns.map V.int) ∧ ns.length ≤ 63 ∧ ∀ H', Q (.bl true) H'
theorem ok_law (T : TX K mg) : FnL P w K mg (He.ga K "law") 6 "_law_script" (spLaw K) := by
  refine mk_law T (fun vs H Q E h => ?_) (fun base X vs H Q E C h => ?_)
  · obtain ⟨a, ns, rfl, _⟩ := h
    rfl
  obtain ⟨a, ns, rfl, hS, hlen, q⟩ := h
  unfold r_law
  repeat walk_at "v"
  refine s_for1 (m_range T C) ?_
  repeat walk_at "v"
  refine len_l C hS ?_
  rw [List.length_map]
  refine min_2 C ?_
  refine max_2 C ?_
  refine ⟨_, rfl, by split <;> split <;> omega, by split <;> split <;> omega, ?_⟩
  refine lp_range (fun _ σ H' => ∃ o1 o2 o3 o4 o5 o6 o7 o8, σ = [some (.ref a), o1, o2, o3, o4, o5, o6, o7, o8] ∧ Same H H') ⟨_, _, _, _, _, _, _, _, rfl, Same.refl _⟩ ?_ ?_
  · rintro i σ H1 hi ⟨o1, o2, o3, o4, o5, o6, o7, o8, rfl, s1⟩
    repeat walk_at "v"
    have hS1 := SqL_same s1 hS
    refine cv_fn C (ok__law_stream T) (by omega) ⟨a, ns, i, congrArg (fun z => [V.ref a, V.int z]) (Int.zero_add _), hS1, by omega, fun l H2 ln sl hl => ?_⟩
    have s2 : Same H1 H2 := sl
    have dr : ∀ (σ' : L2.St) (H' : Hp) (Q' : VK), σ'[2]? = some (some (.ref l)) → Str2 H' l → (∀ (r : Int) H3, 0 ≤ r → SameX l H' H3 → Str2 H3 l → Q' (.int r) H3) →
        (tCallG X ("_law_draw" : Str) (tCons (tVar 2) (tCons (tIx X (tLst (tCons (tC (.int 9)) (tCons (tBin X (binaryOp .Pow) (tC (.int 10)) (tC (.int 30))) tNil))) (tCallG X ("_law_draw" : Str) (tCons (tVar 2) (tCons (tC (.int 2)) tNil)))) tNil))) σ' H' Q' := by
      intro σ' H' Q' e hl' q'
      refine s_call (g__law_draw T C) ?_
      refine s_cons (s_var e ?_)
      repeat walk_at "v"
      refine pow_ii (by unfold CPow; decide) ?_
      repeat walk_at "v"
      refine ⟨szr rfl, fun p hp => ?_⟩
      have np : p ≠ l := by
        obtain ⟨_, _, h, _⟩ := hl'
        exact fun e => by rw [e, h] at hp; cases hp
      refine s_call (g__law_draw T C) ?_
      refine s_cons (s_var e ?_)
      repeat walk_at "v"
      refine cv_fn C (ok__law_draw T) (by omega) ⟨l, 2, rfl, hl'.upd np, by decide, by decide, fun r H2 h0 h1 sx hs => ?_⟩
      have hp2 : H2 p = some (.lst [.int 9, .int (10 ^ 30)]) := sx _ _ np upd_same
      have s0 : SameX l H' H2 := fun b o n e => sx b o n (by rw [upd_ne (ne_of_none e hp)]; exact e)
      have fin : ∀ n : Int, 0 < n → n.natAbs < 2 ^ 9000 → CV X (.ref (He.ga K "_law_draw")) [.ref l, .int n] σ' H2 Q' := fun n n0 n1 =>
        cv_fn C (ok__law_draw T) (by omega) ⟨l, n, rfl, hs, n0, n1, fun r H3 h0 _ sx3 hs3 => q' r H3 h0 (s0.trans sx3) hs3⟩
      obtain rfl | rfl : r = 0 ∨ r = 1 := by omega
      · refine ix_l C (.of hp2) (v := .int 9) rfl ?_
        exact fin _ (by decide) (small_div (by decide))
      · refine ix_l C (.of hp2) (v := .int (10 ^ 30)) rfl ?_
        exact fin _ (by decide) (small_div (by decide))
    iterate 3 walk_at "v"
    refine dr _ _ _ rfl hl fun r H3 r0 sx3 hl3 => ?_
    iterate 8 walk_at "v"
    refine dr _ _ _ rfl hl3 fun r2 H4 r20 sx4 hl4 => ?_
    have s4 : Same H1 H4 := same_x (same_x s2 ln sx3) ln sx4
    repeat walk_at "v"
    have okse : okFlip (.int r) (.int (r + 1 + r2)) = true := by
      simp only [okFlip, Bool.and_eq_true, decide_eq_true_eq]
      omega
    have mk : ∀ (x y : Int) (σ' : L2.St) (H' : Hp) (Q' : VK), 0 ≤ x → x < y → (∀ p H3, H' p = none → Same H' H3 → FlipAt K H3 p x y → Q' (.ref p) H3) → CV X (.ref (cFlip K)) [.int x, .int y] σ' H' Q' := fun x y σ' H' Q' hx hy q' =>
      new_Flip T C (by omega) NumK.int NumK.int (fun i j ei ej ok p H3 hp s3 f3 => by
        cases ei
        cases ej
        exact q' p H3 hp s3 f3) (fun h => by
        have : okFlip (.int x) (.int y) = true := by
          simp only [okFlip, Bool.and_eq_true, decide_eq_true_eq]
          omega
        rw [this] at h
        cases h)
    refine mk _ _ _ _ _ r0 (by omega) fun p H5 pn s5 f5 => ?_
    repeat walk_at "v"
    obtain ⟨dx, h5⟩ := f5
    refine atr_prop C h5 (c_Flip T) (p_Flip_start T) (ok_Flip_start T) (by omega) ⟨p, _, _, rfl, ⟨dx, h5⟩, ?_⟩
    repeat walk_at "v"
    refine atr_prop C h5 (c_Flip T) (p_Flip_end T) (ok_Flip_end T) (by omega) ⟨p, _, _, rfl, ⟨dx, h5⟩, ?_⟩
    repeat walk_at "v"
    refine ⟨szr rfl, fun p1 n1 => ?_⟩
    repeat walk_at "v"
    refine ⟨szr rfl, fun p2 n2 => ?_⟩
    have t1 := same_upd (o := .lst [.int r, .int (r + 1 + r2)]) n1
    have t2 := same_upd (o := .lst [.int r, .int (r + 1 + r2)]) n2
    refine ne_il C (is := [r, r + 1 + r2]) (js := [r, r + 1 + r2]) (.of (t2 _ _ upd_same)) (.of upd_same) ?_
    rw [decide_eq_true rfl]
    repeat walk_at "v"
    have s6 : Same H5 _ := t1.trans t2
    refine mk _ _ _ _ _ r0 (by omega) fun q1 H6 qn sq fq => ?_
    have f6 : FlipAt K H6 p r (r + 1 + r2) := FlipAt.same (FlipAt.same ⟨dx, h5⟩ s6) sq
    refine neq_Flip T C (by omega) f6 (fq.ty T) nf_self (eqFl.two fq) ?_
    rw [decide_eq_true rfl, decide_eq_true rfl, Bool.and_self]
    repeat walk_at "v"
    refine ⟨szr rfl, fun p3 n3 => ?_⟩
    repeat walk_at "v"
    have f7 := f6.same (same_upd (o := .tup [.int r, .int (r + 1 + r2)]) n3)
    refine eq_Flip T C (by omega) f7 (.base (.tup upd_same)) (nf_tuple_Flip T) (.inr ⟨_, .base (.tup upd_same), t_tuple_Flip T, rfl⟩) ?_
    repeat walk_at "v"
    refine eq_Flip T C (by omega) f7 (.base .non) (nf_NoneType_Flip T) (.inr ⟨_, .base .non, t_NoneType_Flip T, rfl⟩) ?_
    repeat walk_at "v"
    refine mk _ _ _ _ _ r0 (by omega) fun q2 H8 qn2 sq2 fq2 => ?_
    have f8 := f7.same sq2
    refine eq_Flip T C (by omega) f8 (fq2.ty T) nf_self (eqFl.two fq2) ?_
    rw [decide_eq_true rfl, decide_eq_false (by omega : ¬ r + 1 + r2 = r + 1 + r2 + 1), Bool.and_false]
    repeat walk_at "v"
    refine mk _ _ _ _ _ (by omega) (by omega) fun q3 H9 qn3 sq3 fq3 => ?_
    have f9 := f8.same sq3
    refine eq_Flip T C (by omega) f9 (fq3.ty T) nf_self (eqFl.two fq3) ?_
    rw [decide_eq_false (by omega : ¬ r = r + 1), Bool.false_and]
    repeat walk_at "v"
    refine mk _ _ _ _ _ (by omega) (by omega) fun q4 H10 qn4 sq4 fq4 => ?_
    have f10 := f9.same sq4
    refine eq_Flip T C (by omega) f10 (fq4.ty T) nf_self (eqFl.two fq4) ?_
    rw [decide_eq_true (rfl : r + 1 + r2 = r + 1 + r2), Bool.and_true]
    repeat walk_at "v"
    refine ne_self ?_
    repeat walk_at "v"
    have s10 : Same H H10 := (s1.trans s4).trans (s5.trans (s6.trans (sq.trans ((same_upd n3).trans (sq2.trans (sq3.trans sq4))))))
    have raises : ∀ (x y : V) (tx ty : Value) (σ' : L2.St) (H' : Hp) (Q' : VK), NumK K H' x tx → NumK K H' y ty → okFlip x y = false → (∀ H3, Same H' H3 → Q' (.bl true) H3) → CV X (.ref (He.ga K "_law_raises")) [x, y] σ' H' Q' := fun x y tx ty σ' H' Q' nx ny no q' =>
      cv_fn C (ok__law_raises T) (by omega) ⟨x, y, tx, ty, rfl, nx, ny, fun H3 s3 => by rw [no]; exact q' H3 s3⟩
    refine s_forL ?_
    repeat walk_at "v"
    refine ⟨szr rfl, fun p5 n5 => ?_⟩
    repeat walk_at "v"
    refine ⟨szr rfl, fun p6 n6 => ?_⟩
    repeat walk_at "v"
    refine ⟨szr rfl, fun p7 n7 => ?_⟩
    have u5 : Same H10 _ := same_upd (o := .lst [.int 0]) n5
    have u6 := same_upd (o := .tup [.int 0]) n6
    have u7 := same_upd (o := .lst [.non, .bl true, .bl false, .int (-1), .str "0", .ref p5, .ref p6]) n7
    refine it_l C (.of upd_same) ?_
    refine lp_list (xs := [.non, .bl true, .bl false, .int (-1), .str "0", .ref p5, .ref p6]) (fun _ σ H' => ∃ o6 o7 o8, σ = [some (.ref a), some (.int (0 + i)), some (.ref l), some (.int r), some (.int (r + 1 + r2)), some (.ref p), o6, o7, o8] ∧ Same (upd (upd (upd H10 p5 (.lst [.int 0])) p6 (.tup [.int 0])) p7 (.lst [.non, .bl true, .bl false, .int (-1), .str "0", .ref p5, .ref p6])) H') ⟨_, _, _, rfl, Same.refl _⟩ ?_ ?_ ?_
    · rintro _ σ H' _ ⟨_, _, _, rfl, s'⟩
      exact .of (s' _ _ upd_same)
    · rintro jj x σ H' hx ⟨_, _, _, rfl, s'⟩
      obtain ⟨cx, t, nk⟩ := odds T (s' _ _ (u7 _ _ (u6 _ _ upd_same))) (s' _ _ (u7 _ _ upd_same)) x (List.mem_of_getElem? hx)
      repeat walk_at "v"
      refine raises _ _ _ _ _ _ _ nk NumK.int (okFlip_l cx) fun H'' s'' => ?_
      repeat walk_at "v"
      refine raises _ _ _ _ _ _ _ NumK.int (nk.same s'') (okFlip_r cx) fun H3 s3 => ?_
      repeat walk_at "v"
      exact ⟨_, _, _, rfl, s'.trans (s''.trans s3)⟩
    rintro σ H' ⟨o6', o7', o8', rfl, s'⟩
    refine nx_mk ?_
    refine s_forL ?_
    repeat walk_at "v"
    refine ⟨szr rfl, fun a1 m1 => ?_⟩
    repeat walk_at "v"
    refine ⟨szr rfl, fun a2 m2 => ?_⟩
    repeat walk_at "v"
    refine ⟨szr rfl, fun a3 m3 => ?_⟩
    repeat walk_at "v"
    refine ⟨szr rfl, fun a4 m4 => ?_⟩
    repeat walk_at "v"
    refine ⟨szr rfl, fun a5 m5 => ?_⟩
    repeat walk_at "v"
    refine ⟨szr rfl, fun a6 m6 => ?_⟩
    repeat walk_at "v"
    refine ⟨szr rfl, fun a7 m7 => ?_⟩
    have w1 : Same H' _ := same_upd (o := .tup [.int r, .int r]) m1
    have w2 := same_upd (o := .tup [.int (r + 1 + r2), .int r]) m2
    have w3 := same_upd (o := .tup [.int (r + 1 + r2 + 1), .int (r + 1 + r2)]) m3
    have w4 := same_upd (o := .tup [.int (-2), .int (-1)]) m4
    have w5 := same_upd (o := .tup [.int 0, .int 0]) m5
    have w6 := same_upd (o := .tup [.non, .non]) m6
    have w7 := same_upd (o := .lst [.ref a1, .ref a2, .ref a3, .ref a4, .ref a5, .ref a6]) m7
    have pairs : ∀ x ∈ [V.ref a1, .ref a2, .ref a3, .ref a4, .ref a5, .ref a6], ∃ b y z ty tz, x = .ref b ∧ SqT K (pairH H' a1 a2 a3 a4 a5 a6 a7 r (r + 1 + r2)) b [y, z] ∧ NumK K (pairH H' a1 a2 a3 a4 a5 a6 a7 r (r + 1 + r2)) y ty ∧ NumK K (pairH H' a1 a2 a3 a4 a5 a6 a7 r (r + 1 + r2)) z tz ∧ okFlip y z = false := by
      have no : ∀ x y : Int, (x < 0 ∨ y ≤ x) → okFlip (.int x) (.int y) = false := by
        intro x y h
        simp only [okFlip, Bool.and_eq_false_iff, decide_eq_false_iff_not]
        omega
      intro x hx
      simp only [List.mem_cons, List.not_mem_nil, or_false] at hx
      rcases hx with rfl | rfl | rfl | rfl | rfl | rfl
      · exact ⟨_, _, _, _, _, rfl, .of (w7 _ _ (w6 _ _ (w5 _ _ (w4 _ _ (w3 _ _ (w2 _ _ upd_same)))))), NumK.int, NumK.int, no _ _ (by omega)⟩
      · exact ⟨_, _, _, _, _, rfl, .of (w7 _ _ (w6 _ _ (w5 _ _ (w4 _ _ (w3 _ _ upd_same))))), NumK.int, NumK.int, no _ _ (by omega)⟩
      · exact ⟨_, _, _, _, _, rfl, .of (w7 _ _ (w6 _ _ (w5 _ _ (w4 _ _ upd_same)))), NumK.int, NumK.int, no _ _ (by omega)⟩
      · exact ⟨_, _, _, _, _, rfl, .of (w7 _ _ (w6 _ _ (w5 _ _ upd_same))), NumK.int, NumK.int, no _ _ (by omega)⟩
      · exact ⟨_, _, _, _, _, rfl, .of (w7 _ _ (w6 _ _ upd_same)), NumK.int, NumK.int, no _ _ (by omega)⟩
      · exact ⟨_, _, _, _, _, rfl, .of (w7 _ _ upd_same), ⟨.base .non, fun _ => kit_ty (by decide +kernel)⟩, ⟨.base .non, fun _ => kit_ty (by decide +kernel)⟩, rfl⟩
    have s11 : Same H (pairH H' a1 a2 a3 a4 a5 a6 a7 r (r + 1 + r2)) := s10.trans (u5.trans (u6.trans (u7.trans (s'.trans (w1.trans (w2.trans (w3.trans (w4.trans (w5.trans (w6.trans w7))))))))))
    refine it_l C (.of upd_same) ?_
    have start : pairH H' a1 a2 a3 a4 a5 a6 a7 r (r + 1 + r2) a7 = _ := upd_same
    change Lp _ _ _ _ _ (pairH H' a1 a2 a3 a4 a5 a6 a7 r (r + 1 + r2))
    generalize pairH H' a1 a2 a3 a4 a5 a6 a7 r (r + 1 + r2) = Hz at pairs s11 start ⊢
    refine lp_list (xs := [.ref a1, .ref a2, .ref a3, .ref a4, .ref a5, .ref a6]) (fun _ σ H' => ∃ o6 o7 o8, σ = [some (.ref a), some (.int (0 + i)), some (.ref l), some (.int r), some (.int (r + 1 + r2)), some (.ref p), o6, o7, o8] ∧ Same Hz H') ⟨_, _, _, rfl, Same.refl _⟩ ?_ ?_ ?_
    · rintro _ σ H' _ ⟨_, _, _, rfl, s'⟩
      exact .of (s' _ _ start)
    · rintro jj x σ H' hx ⟨_, _, _, rfl, s'⟩
      obtain ⟨b, y, z, ty, tz, rfl, hb, ny, nz, no⟩ := pairs x (List.mem_of_getElem? hx)
      have hK := C.K
      subst hK
      refine ⟨b, [y, z], rfl, .inl (SqT_same s' hb), rfl, ?_⟩
      refine ⟨_, _, rfl, ?_⟩
      refine s_gname ?_
      refine ⟨_, _, rfl, ?_⟩
      refine s_gname ?_
      refine ⟨rfl, ?_⟩
      repeat walk_at "v"
      refine raises _ _ _ _ _ _ _ (ny.same s') (nz.same s') no fun H3 s3 => ?_
      repeat walk_at "v"
      exact ⟨_, _, _, rfl, s'.trans s3⟩
    rintro σ H' ⟨o6', o7', o8', rfl, s'⟩
    exact ⟨_, _, _, _, _, _, _, _, rfl, s11.trans s'⟩
  · rintro σ H1 ⟨o1, o2, o3, o4, o5, o6, o7, o8, rfl, s1⟩
    repeat walk_at "v"
    exact q _
end

abbrev RO : PySem.W.OpenRow := PySem.W.OpenLaw.row PySem.Challenge.rw_twocolourflips_k05_flips_made
abbrev hk : PySem.W.Hook := hookV 6 fa fn
def ob (s : PySem.W.SharedT) : AlV := obsVG 6 fa fn (HandSHeadRun.getT s)
theorem ob_eq (s : PySem.W.SharedT) : ob s = hk.obs s.abs := obsVG_eq (HandSHeadRun.getT_eq s)
def loose : List Str := (["_wall", "FlipError", "InvalidRow", "InvalidFlip", "InvalidNumber", "NoPlace", "NotAllowed", "is_number", "is_count", "is_colour", "MAX_RUNS", "MAX_LENGTH", "joined", "Row", "check_row", "Flip", "_law_stream", "_law_draw", "_law_choose", "_law_raises"] : List Str)
set_option maxHeartbeats 0 in
theorem run (w : World) : HandSHeadRun.RunEq RO (PySem.W.view RO.prog [25]) hk ob 20000 loose w := by
  intro os
  kernel_rfl
end T
open PySem PySem.W PySem.Calls PyProof.Rows
set_option maxHeartbeats 0 in
theorem PySem.Challenge.cw_twocolourflips_k05_flips_made_holds : PySem.Challenge.rw_twocolourflips_k05_flips_made.Holds := by
  w_on; o_law
  refine HandSHeadRun.head_any (r := OpenLaw.row PySem.Challenge.rw_twocolourflips_k05_flips_made) (q := view (OpenLaw.row PySem.Challenge.rw_twocolourflips_k05_flips_made).prog [25]) (H := T.hk) (ob := T.ob) (M := 20000) (loose := T.loose) (d := HandSHeadRun.topDef (OpenLaw.row PySem.Challenge.rw_twocolourflips_k05_flips_made).prog 25) (kwd := []) T.ob_eq
    (by kernel_rfl) (fun s => by kernel_rfl) T.run (by kernel_rfl) (by kernel_rfl) (by kernel_rfl) (by rfl) (by first | assumption | decide +kernel) (by decide +kernel) ⟨rfl, rfl, rfl, rfl, rfl, by decide +kernel⟩ ?hw ?hc
  case hw => w_witness2
  case hc => exact Vc.walk_v (l := PySem.Challenge.rw_twocolourflips_k05_flips_made) (n := 63) (k := 6) (x := "_law_script") (fa := T.fa) (fn := T.fn) (sp := T.spLaw) (dn := "law") rfl (by decide) (by kernel_rfl) ⟨rfl, by decide, by decide⟩ (by kernel_rfl) T.g0_law (fun w K mg t => T.ok_law t) fun K H a ns hl hS => ⟨a, ns, rfl, hS, hl, fun _ => rfl⟩


