import PyProof.Rows.All
import Wide.All
import OpenK.AllK
import Wide.FinOn
import HandS.ForMost
import HandS.Exc
import HandS.ExcOwn
import HandS.WordsExc
import HandS.TryOnly
import HandS.TryMany
import HandS.ExcCtx
import HandS.Hot
import HandS.HotCalls
import HandS.SuiteRaise
import HandS.RaiseFrom
import HandS.Iter
import KE.GoesMore
import HandS.Lambda
import HandS.Deep
import HandS.Sort
import KE.SortKeyHeap
import HandS.FStr
import KE.KUnpackStar
import HandS.Style
import HandS.Star
import HandS.Comp
import HandS.Dict
import HandS.DictComp
import HandS.CallLocal
import PyProof.SliceStr2
import KE.KRevSl
import PyProof.RulesMatch
import HandS.Wide
import HandS.IsInst
import HandS.Property
import HandS.HeadHook1
import HandS.ExcInitHot
import KE.KStateDown
import Lean
import HandS.Head0
import HandS.Head1
import HandS.Head2
import HandS.HeadEnd
import HandS.EndBits
import HandS.ExcIs
import HandS.HeadHook2
import HandS.SlotsOwn
import HandS.Walk
import PyProof.InstNe
import KE.KOpsOwn
import HandS.Small
import HandS.List
import PyProof.Rows.Range3
import HandS.Text
import HandS.StrMore
import PyProof.StrLawsIn
import KE.KExcSuper
import HandS.ExcField
import HandS.ExcInit
import KE.KExcIs
import HandS.EndTab
import HandS.HeadHook4
import HandS.OwnEq
import HandS.TupLe
import HandS.Conv
import KE.KDictSum
import HandS.DictSubView
import HandS.Finally
import HandS.Zip
import HandS.Replace
import KE.DataMinMax
import KE.SortData
import PySem.Challenge.RW_twocolourflips_k17_numbers_of_best_flips
set_option Elab.async false
set_option linter.all false
set_option maxRecDepth 100000
set_option maxHeartbeats 4000000
namespace Vc
open PySem PySem.Spec PyProof.Rows L2

/-! ### exceptions: near ones (their context is None), far ones (it may be another) -/
/-- a far exception's class -/
def far : Value → Value
  | .ref a => .int (Int.ofNat a) 0
  | v => v
def nearX (E : XK) : XK := fun cls d H => (∃ a, cls = .ref a) ∧ E cls d H
def farX (E : XK) : XK := fun cls d H => (∃ a, cls = .ref a) ∧ E (far cls) d H
def nearW (W : WX) : WX := fun cls d σ H => (∃ a, cls = .ref a) ∧ W cls d σ H
def farW (W : WX) : WX := fun cls d σ H => (∃ a, cls = .ref a) ∧ W (far cls) d σ H
def TakesV (X : Cx) (W : WX) : Prop := L2N.Takes X (nearW W) ∧ L2.Takes X (farW W)
def CXV (P : Program) (w : World) : CXT := fun outer H s E u s' => L2N.CX P w outer H s (nearX E) u s' ∨ L2.CX P w outer H s (farX E) u s'
theorem TakesV.imp {X : Cx} {W W' : WX} (t : TakesV X W) (h : ∀ c d σ H, W' c d σ H → W c d σ H) : TakesV X W' :=
  ⟨L2N.Takes.imp t.1 fun _ _ _ _ z => ⟨z.1, h _ _ _ _ z.2⟩, t.2.imp fun _ _ _ _ z => ⟨z.1, h _ _ _ _ z.2⟩⟩
theorem passV {X : Cx} {W : WX} (tk : TakesV X W) (σ : L2.St) : PassesAt (CXV X.prog X.w) X σ (WE W σ) := fun pins H s e s' I c =>
  c.elim (fun c => tk.1 e s' (L2N.XE.of_call I (fun _ _ _ h => h) c)) fun c => tk.2 e s' (XE.of_call I (fun _ _ _ h => h) c)
theorem takesF0 {X : Cx} : L2.Takes X (farW fun _ _ _ _ => False) := fun _ _ x => by
  obtain ⟨_, _, _, _, _, _, _, _, _, _, _, _, _, _, _, _, z⟩ := x
  exact z.2.elim
theorem takesV0 {X : Cx} : TakesV X (fun _ _ _ _ => False) := ⟨fun _ _ x => by
  obtain ⟨_, _, _, _, _, _, _, _, _, _, _, _, _, _, _, _, z⟩ := x
  exact z.2.elim, takesF0⟩
theorem passLV {X : Cx} : Passes (CXV X.prog X.w) X E0 := fun _ _ _ _ _ _ _ h => by
  rcases h with h | h
  · obtain ⟨_, _, _, _, _, _, _, _, _, _, _, _, z⟩ := h
    exact z.2.elim
  · obtain ⟨_, _, _, _, _, _, _, _, _, _, _, _, z⟩ := h
    exact z.2.elim
theorem takesV_of {X : Cx} {E : XK} (hs : X.stack = X.env :: X.outer) (hf : X.env.frame = some X.env.locals) (hex : X.ex = []) {E₁ : Value → Shared → Prop}
    (hx : X.xe = fun e s' => wpAny (model X.prog X.w) X.A (leaving X.env e) (fun _ s'' => CXV X.prog X.w X.outer X.H_0 X.s_0 E e s'') E₁ s') : TakesV X (fun cls d _ H => E cls d H) := by
  refine ⟨fun u s' x => ?_, fun u s' x => ?_⟩
  · rw [hx]
    exact wpAny_mono (L2N.XE.leave (E := nearX E) hs hf hex (fun _ _ _ _ h => h) x) (fun _ _ z => .inl z) fun _ _ z => z
  · rw [hx]
    exact wpAny_mono (XE.leave (E := farX E) hs hf hex (fun _ _ _ _ h => h) x) (fun _ _ z => .inr z) fun _ _ z => z
/-- the object of a caught exception; h: its context is None -/
def Zb (h : Bool) (cls : Value) (d : Option Addr) (o : Obj) : Prop := Zc cls d o ∧ (h = true → PXN.CtxN o)
theorem Zb.zc {h : Bool} {cls : Value} {d : Option Addr} {o : Obj} (z : Zb h cls d o) : Zc cls d o := z.1
theorem Zc.steady1 {cls : Value} {d : Option Addr} : PXN.Steady1 (Zc cls d) := fun o v h => Zc.steady o _ h
abbrev suiteX (X : Cx) (a : Addr) (pn : List (Addr × Obj)) : Cx := L2H.suiteX X a pn
theorem hot_of {X : Cx} {a : Addr} {oe : Obj} {pn : List (Addr × Obj)} {cls : Value} {d : Option Addr} (z : Zb true cls d oe) (hf : ∃ vs, oe.data = .fields vs) : L2H.HotC (suiteX X a ((a, oe) :: pn)) := by
  obtain ⟨vs, hd⟩ := hf
  exact ⟨(a, oe), ⟨rfl, vs, hd, z.2 rfl vs hd⟩, List.mem_cons_self⟩

/-! ### value-level meanings: the weakest that a rule may ask -/
section
variable (X : Cx)
/-- a one-place operation -/
def O1 (f : Value → Sem Value) (x : V) : TE := fun σ H Q =>
  ∀ (pins : List (Addr × Obj)) (s : Shared) (v : Value), Inv X pins σ H s → RelV x v → wpAny (model X.prog X.w) X.A (f v) (EP X pins σ Q) X.xe s
/-- a two-place operation -/
def O2 (f : Value → Value → Sem Value) (x y : V) : TE := fun σ H Q =>
  ∀ (pins : List (Addr × Obj)) (s : Shared) (v u : Value), Inv X pins σ H s → RelV x v → RelV y u → wpAny (model X.prog X.w) X.A (f v u) (EP X pins σ Q) X.xe s
/-- a value's truth -/
def Tr (x : V) : TT := fun σ H Q =>
  ∀ (pins : List (Addr × Obj)) (s : Shared) (v : Value), Inv X pins σ H s → RelV x v → wpAny (model X.prog X.w) X.A (truthy v) (TP X pins σ Q) X.xe s
/-- a call of a value -/
def CV (f : Value) (xs : List V) : TE := fun σ H Q =>
  ∀ (pins : List (Addr × Obj)) (s : Shared) (us : List Value), Inv X pins σ H s → Vals xs us → wpAny (model X.prog X.w) X.A (call f us) (EP X pins σ Q) X.xe s
/-- o[i] = v -/
def SetV (o i x : V) (σ : L2.St) (H : Hp) (Q : Hp → Prop) : Prop :=
  ∀ (pins : List (Addr × Obj)) (s : Shared) (ov iv u : Value), Inv X pins σ H s → RelV o ov → RelV i iv → RelV x u → wpAny (model X.prog X.w) X.A (setItem ov iv u) (fun _ s' => ∃ H', Inv X pins σ H' s' ∧ Q H') X.xe s
/-- o.f = v -/
def SetA (f : Str) (o x : V) (σ : L2.St) (H : Hp) (Q : Hp → Prop) : Prop :=
  ∀ (pins : List (Addr × Obj)) (s : Shared) (ov u : Value), Inv X pins σ H s → RelV o ov → RelV x u → wpAny (model X.prog X.w) X.A (setAttr ov f u) (fun _ s' => ∃ H', Inv X pins σ H' s' ∧ Q H') X.xe s
/-- what is walked, from a value -/
def IterV (x : V) (σ : L2.St) (H : Hp) (R : It → Hp → Prop) : Prop :=
  ∀ (tg : Expr) (pins : List (Addr × Obj)) (s : Shared) (v : Value), Inv X pins σ H s → RelV x v → wpAny (model X.prog X.w) X.A (pyIter v) (PIE X pins σ tg R) X.xe s
end

/-! ### readings -/
def tBin (X : Cx) (f : Value → Value → Sem Value) (ta tb : TE) : TE := fun σ H Q => ta σ H fun x H1 => tb σ H1 fun y H2 => O2 X f x y σ H2 Q
def tUny (X : Cx) (f : Value → Sem Value) (ta : TE) : TE := fun σ H Q => ta σ H fun x H1 => O1 X f x σ H1 Q
def tTru (X : Cx) (ta : TE) : TT := fun σ H Q => ta σ H fun x H1 => Tr X x σ H1 Q
def tBad : TE := fun _ _ _ => False
def tBadT : TT := fun _ _ _ => False
def tAndE (X : Cx) (ta tb : TE) : TE := fun σ H Q => ta σ H fun x H1 => Tr X x σ H1 fun c H2 => if c = true then tb σ H2 Q else Q x H2
def tOrE (X : Cx) (ta tb : TE) : TE := fun σ H Q => ta σ H fun x H1 => Tr X x σ H1 fun c H2 => if c = true then Q x H2 else tb σ H2 Q
def tIfT (t a b : TT) : TT := fun σ H Q => t σ H fun c H1 => if c = true then a σ H1 Q else b σ H1 Q
/-- a op1 b op2 c -/
def tCh (X : Cx) (f g : Value → Value → Sem Value) (ta tb tc : TE) : TE := fun σ H Q => ta σ H fun x H1 => tb σ H1 fun y H2 => O2 X f x y σ H2 fun z H3 => ∃ k, z = .bl k ∧
  (if k = true then tc σ H3 fun w' H4 => O2 X g y w' σ H4 Q else Q (.bl false) H3)
/-- the module's name x as a value -/
def tGlo (X : Cx) (x : Str) : TE := fun _ H Q => (∃ u v, X.mg x = some u ∧ RelV v u ∧ Q v H) ∨ (∃ u v, X.mg x = none ∧ bootBuiltins x = some u ∧ RelV v u ∧ Q v H)
/-- what stands behind the module's name x, called -/
inductive Cal (X : Cx) (x : Str) : Value → Prop where
  | own {f : Addr} (h : X.mg x = some (.ref f)) (k : PySem.W.keepIn X.K (.ref f) = true) : Cal X x (.ref f)
  | blt {id : String} (h : X.mg x = none) (b : bootBuiltins x = some (.builtin id)) : Cal X x (.builtin id)
  | typ {T : String} (h : X.mg x = none) (b : bootBuiltins x = some (.type T)) : Cal X x (.type T)
def tCallG (X : Cx) (x : Str) (ta : TA) : TE := fun σ H Q => ∃ f, Cal X x f ∧ ta σ H fun vs H1 => CV X f vs σ H1 Q
/-- a method of a built-in type, or of an instance of an own class -/
inductive Mth (X : Cx) (m : Str) (x : V) (H : Hp) : Value → Prop where
  | blt {T id : String} (pa : PlainAttrs T) (slot : Slot T m id) (hty : typeOf (.builtin id) = pure (.type "method_descriptor")) (ty : tyV X.K T x H) : Mth X m x H (.builtin id)
  | own {a C dx g : Addr} {fs : List (Str × V)} (e : x = .ref a) (h : H a = some (.ins C dx fs)) (c : Cls X.K C) (k : Meth X.K C m g) (l : fs.lookup m = none) : Mth X m x H (.ref g)
def tMth (X : Cx) (m : Str) (to : TE) (ta : TA) : TE := fun σ H Q => to σ H fun x H1 => ∃ f, Mth X m x H1 f ∧ ta σ H1 fun vs H2 => CV X f (x :: vs) σ H2 Q
def tAtr (X : Cx) (f : Str) (te : TE) : TE := tUny X (fun v => getAttr v f true) te

/-! ### the rules, whatever the values are -/
section
variable {X : Cx} {a b c : Expr} {ta tb tc : TE} {pos : Pos}
theorem pe_bin {op : Operator} (ha : PE X a ta) (hb : PE X b tb) : PE X (.BinOp a op b pos) (tBin X (binaryOp op) ta tb) :=
  ⟨fun pins s σ H Q I h => wpAny_BinOp (binT ha hb I h fun v u s2 x y H2 I2 rx ry q => q pins s2 v u I2 rx ry)⟩
theorem pe_uny {op : UnaryOp} (ha : PE X a ta) : PE X (.UnaryOp op a pos) (tUny X (unaryOp op) ta) :=
  ⟨fun pins s σ H Q I h => UnaryOp_ (thn (ha.run pins s σ H _ I h) fun v s1 ⟨x, H1, I1, r1, q1⟩ => q1 pins s1 v I1 r1)⟩
theorem pe_cmp1 {op : CmpOp} (ha : PE X a ta) (hb : PE X b tb) (hm : behindInMarks op b = false) : PE X (.Compare a [op] [b] pos) (tBin X (compareOp op) ta tb) :=
  ⟨fun pins s σ H Q I h => wpAny_Compare1 (binT ha hb I h fun v u s2 x y H2 I2 rx ry q => q pins s2 v u I2 rx ry) hm⟩
theorem pt_cmp1 {op : CmpOp} (ha : PE X a ta) (hb : PE X b tb) (hm : behindInMarks op b = false) : PT X (.Compare a [op] [b] pos) (tTru X (tBin X (compareOp op) ta tb)) := by
  refine ⟨fun pins s σ H Q I h => wpAny_isTrue_Compare1 (binT ha hb I h fun v u s2 x y H2 I2 rx ry q => ?_) hm⟩
  exact thn (q pins s2 v u I2 rx ry) fun c s3 ⟨z, H3, I3, r3, q3⟩ => q3 pins s3 c I3 r3
theorem pe_andE {rest : List Expr} (ha : PE X a ta) (hb : PE X (.BoolOp .And (b :: rest) pos) tb) : PE X (.BoolOp .And (a :: b :: rest) pos) (tAndE X ta tb) := by
  refine ⟨fun pins s σ H Q I h => BoolOp_and (thn (ha.run pins s σ H _ I h) fun v s1 ⟨x, H1, I1, r1, q1⟩ => ?_)⟩
  refine thn (q1 pins s1 v I1 r1) fun c s2 ⟨H2, I2, q2⟩ => ?_
  cases c with
  | true => exact hb.run pins s2 σ H2 Q I2 q2
  | false => exact ⟨x, H2, I2, r1, q2⟩
theorem pe_orE {rest : List Expr} (ha : PE X a ta) (hb : PE X (.BoolOp .Or (b :: rest) pos) tb) : PE X (.BoolOp .Or (a :: b :: rest) pos) (tOrE X ta tb) := by
  refine ⟨fun pins s σ H Q I h => BoolOp_or (thn (ha.run pins s σ H _ I h) fun v s1 ⟨x, H1, I1, r1, q1⟩ => ?_)⟩
  refine thn (q1 pins s1 v I1 r1) fun c s2 ⟨H2, I2, q2⟩ => ?_
  cases c with
  | false => exact hb.run pins s2 σ H2 Q I2 q2
  | true => exact ⟨x, H2, I2, r1, q2⟩
theorem pt_any (ha : PE X a ta) (he : ∀ whole, isTrue a X.env whole = (do let v ← whole; standAt a.pos; holding [v] (truthy v))) : PT X a (tTru X ta) :=
  ⟨fun pins s σ H Q I h => isTrue_plain (thn (ha.run pins s σ H _ I h) fun v s1 ⟨x, H1, I1, r1, q1⟩ => q1 pins s1 v I1 r1) (he _)⟩
theorem pt_ifE {t1 t2 t3 : TT} (hc : PT X c t1) (ha : PT X a t2) (hb : PT X b t3) : PT X (.IfExp c a b pos) (tIfT t1 t2 t3) := by
  refine ⟨fun pins s σ H Q I h => ?_⟩
  show wpAny _ _ (do if ← isTrue c X.env (eval c X.env) then isTrue a X.env (eval a X.env) else isTrue b X.env (eval b X.env)) _ _ _
  refine wpAny_bind (thn (hc.run pins s σ H _ I h) fun d s1 ⟨H1, I1, q1⟩ => ?_)
  cases d with
  | true => exact ha.run pins s1 σ H1 Q I1 q1
  | false => exact hb.run pins s1 σ H1 Q I1 q1
theorem pe_ch {op op' : CmpOp} (ha : PE X a ta) (hb : PE X b tb) (hc : PE X c tc) (hm : lastMarks [op, op'] [b, c] = false) : PE X (.Compare a [op, op'] [b, c] pos) (tCh X (compareOp op) (compareOp op') ta tb tc) := by
  refine ⟨fun pins s σ H Q I h => Compare_chain (thn (ha.run pins s σ H _ I h) fun v s1 ⟨x, H1, I1, r1, q1⟩ => chain_link (thn (hb.run pins s1 σ H1 _ I1 q1) fun u s2 ⟨y, H2, I2, r2, q2⟩ =>
    thn (q2 pins s2 v u I2 r1 r2) fun d s3 ⟨z, H3, I3, r3, k, e, q3⟩ => ?_)) hm⟩
  subst e
  cases r3
  refine wpAny_truthy_bool ?_
  cases k with
  | false => exact ite_ff ⟨.bl false, H3, I3, rfl, q3⟩
  | true => exact ite_tt (chain_last (thn (hc.run pins s3 σ H3 _ I3 q3) fun w' s4 ⟨z', H4, I4, r4, q4⟩ => q4 pins s4 u w' I4 r2 r4))
/-- a comparison of three, as a test: its answers are truth values -/
theorem pt_ch {op op' : CmpOp} (ha : PE X a ta) (hb : PE X b tb) (hc : PE X c tc) (hm : lastMarks [op, op'] [b, c] = false) :
    PT X (.Compare a [op, op'] [b, c] pos) (tTest (tCh X (compareOp op) (compareOp op') ta tb tc)) := by
  refine ⟨fun pins s σ H Q I h => isTrue_chain (thn (ha.run pins s σ H _ I h) fun v s1 ⟨x, H1, I1, r1, q1⟩ => test_link (thn (hb.run pins s1 σ H1 _ I1 q1) fun u s2 ⟨y, H2, I2, r2, q2⟩ =>
    thn (q2 pins s2 v u I2 r1 r2) fun d s3 ⟨z, H3, I3, r3, k, e, q3⟩ => ?_)) hm⟩
  subst e
  cases r3
  refine wpAny_truthy_bool ?_
  cases k with
  | false =>
    obtain ⟨k', e', q'⟩ := q3
    cases e'
    exact ite_ff ⟨H3, I3, q'⟩
  | true =>
    refine ite_tt (test_last (thn (hc.run pins s3 σ H3 _ I3 q3) fun w' s4 ⟨z', H4, I4, r4, q4⟩ => thn (q4 pins s4 u w' I4 r2 r4) fun d' s5 ⟨z2, H5, I5, r5, k2, e2, q5⟩ => ?_))
    subst e2
    cases r5
    exact wpAny_truthy_bool ⟨H5, I5, q5⟩
theorem pe_glo {x : Str} (hg : Gl X x) (hd : (x == ("__debug__" : Str)) = false) (hn : x ≠ "__name__") : PE X (.Name x pos) (tGlo X x) := by
  refine ⟨fun pins s σ H Q I h => ?_⟩
  rcases h with ⟨u, v, hm, r, q⟩ | ⟨u, v, hm, hb, r, q⟩
  · exact ld_glob I hg hm ⟨v, H, I, r, q⟩ hd
  · exact ld_blt I hg hm hb ⟨v, H, I, r, q⟩ hn hd
theorem pe_atr {f : Str} (he : PE X a ta) (hb : attributeBase a f X.env (eval a X.env) = eval a X.env) : PE X (.Attribute a f pos) (tAtr X f ta) :=
  ⟨fun pins s σ H Q I h => attr_of hb (thn (he.run pins s σ H _ I h) fun u s1 ⟨x, H1, I1, rx, q⟩ => q pins s1 u I1 rx)⟩
/-- x(..), x a name of the module or a built-in -/
theorem pe_callG {x : Str} {p : Pos} {e : Expr} {es : List Expr} {t : TA} (hg : Gl X x) (hdb : (x == ("__debug__" : Str)) = false) (hn : x ≠ "__name__") (ha : PA X (e :: es) t)
    (he : starEach (e :: es) X.env = (false, eval e X.env) :: starEach es X.env) (hpl : (backTo pos (starEach es X.env)).any (·.1) = false) : PE X (.Call (.Name x p) (e :: es) [] pos) (tCallG X x t) := by
  refine ⟨fun pins s σ H Q I h => ?_⟩
  obtain ⟨f, cal, h⟩ := h
  refine wpAny_Call_Name_kw ?_
  cases cal with
  | own hm hk =>
    refine ld_glob I hg hm ?_ hdb
    refine PySem.W.callWith_K (h₀ := X.base) I.ok.mod.kin hk (thn (ha.run pos pins s σ H _ I h) fun us s1 ⟨vs, H1, I1, r, q⟩ => ⟨I1.kIn, ?_⟩) he hpl
    exact q pins s1 us I1 r
  | blt hm hv =>
    refine ld_blt I hg hm hv ?_ hn hdb
    exact PyProof.Rows.callWith_builtin1 (thn (ha.run pos pins s σ H _ I h) fun us s1 ⟨vs, H1, I1, r, q⟩ => q pins s1 us I1 r) he hpl
  | typ hm hv =>
    refine ld_blt I hg hm hv ?_ hn hdb
    exact PyProof.Rows.callWith_type1 (thn (ha.run pos pins s σ H _ I h) fun us s1 ⟨vs, H1, I1, r, q⟩ => q pins s1 us I1 r) he hpl
/-- x() -/
theorem pe_callG0 {x : Str} {p : Pos} (hg : Gl X x) (hdb : (x == ("__debug__" : Str)) = false) (hn : x ≠ "__name__") : PE X (.Call (.Name x p) [] [] pos) (fun σ H Q => ∃ f, Cal X x f ∧ (∀ id, f ≠ .builtin id) ∧ CV X f [] σ H Q) := by
  refine ⟨fun pins s σ H Q I h => ?_⟩
  obtain ⟨f, cal, hnb, h⟩ := h
  refine wpAny_Call_Name_kw ?_
  cases cal with
  | own hm hk => exact ld_glob I hg hm (PySem.W.callWith_K0 I.kIn hk (h pins s [] I .nil)) hdb
  | blt hm hv => exact absurd rfl (hnb _)
  | typ hm hv => exact ld_blt I hg hm hv (PyProof.Rows.callWith_type0 (h pins s [] I .nil)) hn hdb
end
end Vc

namespace Vc
open PySem PySem.Spec PyProof.Rows L2

/-! ### small looks at the text -/
def isStar : Expr → Bool
  | .Starred _ _ => true
  | _ => false
def noStar (es : List Expr) : Bool := es.all fun e => !isStar e
def isSup : Expr → Bool
  | .Call (.Name _ _) [] [] _ => true
  | _ => false
def plainT : Expr → Bool
  | .UnaryOp .Not _ _ => false
  | .BoolOp .. => false
  | .IfExp .. => false
  | .Compare .. => false
  | _ => true
def isComp : Expr → Bool
  | .ListComp .. => true
  | .SetComp .. => true
  | .DictComp .. => true
  | _ => false
def isSlice : Expr → Bool
  | .Slice .. => true
  | _ => false
theorem star_hd {e : Expr} {es : List Expr} {env : Env} (h : isStar e = false) : starEach (e :: es) env = (false, eval e env) :: starEach es env := by
  cases e <;> first
    | rfl
    | cases h
theorem noStar_cons {e : Expr} {es : List Expr} (h : noStar (e :: es) = true) : isStar e = false ∧ noStar es = true := by
  unfold noStar at h ⊢
  rw [List.all_cons, Bool.and_eq_true] at h
  exact ⟨by simpa using h.1, h.2⟩
theorem star_any {pos : Pos} {env : Env} : ∀ {es : List Expr}, noStar es = true → (backTo pos (starEach es env)).any (·.1) = false
  | [], _ => rfl
  | e :: es, h => by
    obtain ⟨h1, h2⟩ := noStar_cons h
    rw [star_hd h1]
    show (false || (backTo pos (starEach es env)).any (·.1)) = false
    rw [star_any h2] <;> rfl
theorem star_all {pos : Pos} {env : Env} : ∀ {es : List Expr}, noStar es = true → (backTo pos (starEach es env)).all (fun x => !x.1) = true
  | [], _ => rfl
  | e :: es, h => by
    obtain ⟨h1, h2⟩ := noStar_cons h
    rw [star_hd h1]
    show (!false && (backTo pos (starEach es env)).all (fun x => !x.1)) = true
    rw [star_all h2] <;> rfl
theorem base_ok {o : Expr} {f : Str} {env : Env} {w : Sem Value} (h : isSup o = false) : attributeBase o f env w = w := by
  cases o with
  | Call fn as ks p =>
    cases fn with
    | Name id q =>
      cases as with
      | nil =>
        cases ks with
        | nil => cases h
        | cons _ _ => rfl
      | cons _ _ => rfl
    | _ => rfl
  | _ => rfl
theorem isTrue_ok {e : Expr} {env : Env} (h : plainT e = true) (w : Sem Value) : isTrue e env w = (do let v ← w; standAt e.pos; holding [v] (truthy v)) := by
  cases e with
  | UnaryOp op a p =>
    cases op with
    | Not => cases h
    | _ => rfl
  | BoolOp _ _ _ => cases h
  | IfExp _ _ _ _ => cases h
  | Compare _ _ _ _ => cases h
  | _ => rfl
theorem swaps_no {e : Expr} {t : Option Expr} {l : Nat} {env : Env} (h : isComp e = false) : swapsWith e t l env = pure false := by
  cases e <;> first
    | rfl
    | cases h
theorem meth_form {o : Expr} {m : Str} {apos pos : Pos} {args : List Expr} {env : Env} (h1 : isSup o = false) (h2 : noStar args = true) (h3 : args.length < 30) (h4 : (apos.endLine == pos.line) = true) :
    eval (.Call (.Attribute o m apos) args [] pos) env = (do
      let ov ← eval o env
      standAt apos.atName
      let (f, first) ← holding [ov] (getMethod ov m (do return (← importBound o env).getD true))
      callWith pos f first (backTo pos (starEach args env)) (backToKw pos (keywordEach [] env))) := by
  have e1 : methodCallForm (args.length + ([] : List Keyword).length) (backTo pos (starEach args env)) (backToKw pos (keywordEach [] env)) = true := by
    unfold methodCallForm
    rw [star_all h2]
    show (true && (true && decide (args.length + 0 + 0 < 30))) = true
    rw [decide_eq_true (by omega)] <;> rfl
  rw [arm_eval_Call, base_ok h1]
  unfold methodCall
  rw [e1]
  unfold calleeOf methodCallPos
  have e2 : (!true || apos.endLine == pos.line) = true := by rw [h4] <;> rfl
  simp only [e2, ↓reduceIte]
  rfl

/-! ### method calls, subscripts, slices, displays -/
section
variable {X : Cx} {a b c o : Expr} {ta tb tc to : TE} {pos apos : Pos}
theorem pe_mth0 {m : Str} (h1 : isSup o = false) (h4 : (apos.endLine == pos.line) = true) (he : PE X o to) : PE X (.Call (.Attribute o m apos) [] [] pos) (tMth X m to tNil) := by
  refine ⟨fun pins s σ H Q I h => ?_⟩
  refine PySem.W.methodCall_KW (thn (he.run pins s σ H _ I h) fun u s1 ⟨x, H1, I1, rx, f, M, q⟩ => ?_) (meth_form h1 rfl (by decide) h4)
  have q2 : CV X f [x] σ H1 Q := q
  cases M with
  | own e h c k l =>
    subst e
    cases rx
    exact getmeth_ok I1 h c k l (PySem.W.callWith_K0 (first := [.ref _]) I1.kIn k.kp (q2 pins s1 [.ref _] I1 (.cons rfl .nil)))
  | @blt T id pa slot hty ty =>
    obtain ⟨g1, g2⟩ := tyV_is I1 rx ty
    exact getMethod_builtin g1 pa slot hty g2 (Calls.callWith_builtin rfl (PySem.evalArgs_none (q2 pins s1 [u] I1 (.cons rx .nil))))
theorem pe_mth {m : Str} {e : Expr} {es : List Expr} {t : TA} (h1 : isSup o = false) (h2 : noStar (e :: es) = true) (h3 : (e :: es).length < 30) (h4 : (apos.endLine == pos.line) = true) (he : PE X o to) (ha : PA X (e :: es) t) :
    PE X (.Call (.Attribute o m apos) (e :: es) [] pos) (tMth X m to t) := by
  obtain ⟨n1, n2⟩ := noStar_cons h2
  refine ⟨fun pins s σ H Q I h => ?_⟩
  refine PySem.W.methodCall_KW (thn (he.run pins s σ H _ I h) fun u s1 ⟨x, H1, I1, rx, f, M, q⟩ => ?_) (meth_form h1 h2 h3 h4)
  cases M with
  | own e h c k l =>
    subst e
    cases rx
    refine getmeth_ok I1 h c k l (PySem.W.callWith_K (first := [.ref _]) (h₀ := X.base) I.ok.mod.kin k.kp (thn (ha.run pos pins s1 σ H1 _ I1 q) fun us s2 ⟨vs, H2, I2, r2, q2⟩ => ⟨I2.kIn, ?_⟩) (star_hd n1) (star_any n2))
    exact q2 pins s2 (.ref _ :: us) I2 (.cons rfl r2)
  | @blt T id pa slot hty ty =>
    obtain ⟨g1, g2⟩ := tyV_is I1 rx ty
    refine getMethod_builtin g1 pa slot hty g2 ?_
    have hA := ha.run pos pins s1 σ H1 _ I1 q
    rw [star_hd n1] at hA ⊢
    refine Calls.callWith_builtin (by show (false || (backTo pos (starEach es X.env)).any (·.1)) = false; rw [star_any n2] <;> rfl) (Calls.evalArgs_plain ?_)
    exact thn hA fun us s2 ⟨vs, H2, I2, r2, q2⟩ => q2 pins s2 (u :: us) I2 (.cons rx r2)
/-- x[i], i no slice -/
def Ix (X : Cx) (x y : V) : TE := fun σ H Q =>
  ∀ (value slice : Expr) (pins : List (Addr × Obj)) (s : Shared) (v u : Value), isSlice slice = false → Inv X pins σ H s → RelV x v → RelV y u → wpAny (model X.prog X.w) X.A (subscriptTail value slice v u) (EP X pins σ Q) X.xe s
def tIx (X : Cx) (ta tb : TE) : TE := fun σ H Q => ta σ H fun x H1 => tb σ H1 fun y H2 => Ix X x y σ H2 Q
theorem pe_ixv (hs : isSlice b = false) (ha : PE X a ta) (hb : PE X b tb) : PE X (.Subscript a b pos) (tIx X ta tb) :=
  ⟨fun pins s σ H Q I h => Subscript_ (binT ha hb I h fun v u s2 x y H2 I2 rx ry q => q a b pins s2 v u hs I2 rx ry)⟩
/-- x[lo:hi] -/
def Slc (X : Cx) (x : V) (lo hi : Option Int) : TE := fun σ H Q =>
  ∀ (pins : List (Addr × Obj)) (s : Shared) (v vl vu : Value) (sl : Addr), Inv X pins σ H s → RelV x v → s.heap.IsSliceOf sl vl vu .none → IsPart vl lo → IsPart vu hi →
    ∃ T id, typeLookup (.type T) "__getitem__" = pure (some (.builtin id)) ∧ s.TypeIs v T ∧ wpAny (model X.prog X.w) X.A (getItem v (.ref sl)) (EP X pins σ Q) X.xe s
def tSlc (X : Cx) (te : TE) (tl th : TO) : TE := fun σ H Q => te σ H fun x H1 => tl σ H1 fun l H2 => th σ H2 fun u H3 => Slc X x l u σ H3 Q
theorem pe_slc {lo hi : Option Expr} {tl th : TO} {p2 : Pos} (he : PE X a ta) (hl : PO X lo tl) (hu : PO X hi th) : PE X (.Subscript a (.Slice lo hi none p2) pos) (tSlc X ta tl th) := by
  refine ⟨fun pins s σ H Q I h => Subscript_ (thn (he.run pins s σ H _ I h) fun v s1 ⟨x, H1, I1, r1, q1⟩ => ?_)⟩
  refine wpAny_Slice (thn (hl.run pins s1 σ H1 _ I1 q1) fun vl s2 ⟨l, H2, I2, pl, q2⟩ => thn (hu.run pins s2 σ H2 _ I2 q2) fun vu s3 ⟨u, H3, I3, pu, q3⟩ => ?_)
  rw [evalPart_none]
  refine wpAny_pure ?_
  have I4 : Inv X pins σ H3 { s3 with heap := s3.heap.push { cls := .type "slice", data := .fields #[vl, vu, .none] } } := I3.kept (t' := s3.toks) fun b ob q => Heap.get?_push_of_some _ q
  obtain ⟨T, id, hT, ht, hg⟩ := q3 pins _ v vl vu s3.heap.objs.size I4 r1 (Heap.IsSliceOf.new ..) pl pu
  exact tail_any (ops := [.ref s3.heap.objs.size, v]) ht hT hg (by with_unfolding_all rfl)
end

/-! ### statements -/
section
variable {X : Cx} {a b c o e : Expr} {ta tb tc to te : TE} {pos apos : Pos}
/-- o.f = v -/
def gAtr (X : Cx) (f : Str) (to : TE) : TG := fun v σ H Q => to σ H fun x H1 => SetA X f x v σ H1 fun H2 => Q σ H2
def sAtr (X : Cx) (f : Str) (to tv : TE) : TS := fun D σ H => tv σ H fun y H1 => to σ H1 fun x H2 => SetA X f x y σ H2 fun H3 => D.nx σ H3
theorem ps_atr {f : Str} {p : Pos} {value : Expr} {tv : TE} (hv : PE X value tv) (ho : PE X o to) : PS X (.Assign [.Attribute o f p] value pos) (sAtr X f to tv) := by
  have hs : swapsWith value (some (.Attribute o f p)) pos.line X.env = pure false := by cases value <;> rfl
  refine ⟨fun pins s σ H D I h => ?_⟩
  refine plainObj_wpAny_Assign_Attribute (thn (hv.run pins s σ H _ I h) fun u s1 ⟨y, H1, I1, ry, q⟩ => thn (ho.run pins s1 σ H1 _ I1 q) fun ov s2 ⟨x, H2, I2, rx, q2⟩ => ?_) hs
  exact thn (q2 pins s2 ov u I2 rx ry) fun _ s3 ⟨H3, I3, q3⟩ => ⟨σ, H3, I3, q3⟩
/-- o[i] = v -/
def gIx (X : Cx) (to ti : TE) : TG := fun v σ H Q => to σ H fun o H1 => ti σ H1 fun i H2 => SetV X o i v σ H2 fun H3 => Q σ H3
theorem pg_ix {i : Expr} {ti : TE} (hs : isSlice i = false) (ho : PE X o to) (hi : PE X i ti) : PG X (.Subscript o i pos) (gIx X to ti) := by
  have ha : ∀ v, assign (.Subscript o i pos) X.env v = (do
      let ov ← holding [v] (eval o X.env)
      let iv ← holding [v, ov] (eval i X.env)
      standAt pos
      holding [v, ov, iv] (setItem ov iv v)
      release [v, ov, iv] []) := by
    intro v
    cases i <;> first
      | rfl
      | cases hs
  refine ⟨fun pins s σ H v u Q I r h => ?_⟩
  rw [ha]
  refine wpAny_bind (wpAny_holding (thn (ho.run pins s σ H _ I h) fun ov s1 ⟨x, H1, I1, r1, q1⟩ => ?_))
  refine wpAny_bind (wpAny_holding (thn (hi.run pins s1 σ H1 _ I1 q1) fun iv s2 ⟨y, H2, I2, r2, q2⟩ => ?_))
  refine wpAny_bind (wpAny_standAt (wpAny_bind (wpAny_holding (thn (q2 pins s2 ov iv u I2 r1 r2 r) fun _ s3 ⟨H3, I3, q3⟩ => ?_))))
  exact wpAny_release ⟨σ, H3, I3, q3⟩
/-- o[i] op= e -/
def sAugS (X : Cx) (op : Operator) (to ti te : TE) : TS := fun D σ H => to σ H fun o H1 => ti σ H1 fun i H2 =>
  O2 X getItem o i σ H2 fun x H3 => te σ H3 fun y H4 => O2 X (inplaceOp op) x y σ H4 fun z H5 => SetV X o i z σ H5 fun H6 => D.nx σ H6
theorem ps_augI {i : Expr} {ti : TE} {op : Operator} {p : Pos} (hs : isSlice i = false) (ho : PE X o to) (hi : PE X i ti) (he : PE X e te) : PS X (.AugAssign (.Subscript o i p) op e pos) (sAugS X op to ti te) := by
  have ha : ∀ ov iv new, augStore i ov iv new = (do holding [new, ov, iv] (setItem ov iv new); release [new, ov, iv] []; pure .next) := by
    intros
    cases i <;> first
      | rfl
      | cases hs
  refine ⟨fun pins s σ H D I h => wpAny_AugAssign_SubscriptAny (thn (ho.run pins s σ H _ I h) fun ov s1 ⟨x1, H1, I1, r1, q1⟩ => ?_) ha⟩
  refine thn (hi.run pins s1 σ H1 _ I1 q1) fun iv s2 ⟨x2, H2, I2, r2, q2⟩ => ?_
  refine thn (q2 pins s2 ov iv I2 r1 r2) fun old s3 ⟨x3, H3, I3, r3, q3⟩ => ?_
  refine thn (he.run pins s3 σ H3 _ I3 q3) fun v s4 ⟨x4, H4, I4, r4, q4⟩ => ?_
  refine thn (q4 pins s4 old v I4 r3 r4) fun new s5 ⟨x5, H5, I5, r5, q5⟩ => ?_
  exact thn (q5 pins s5 ov iv new I5 r1 r2 r5) fun _ s6 ⟨H6, I6, q6⟩ => ⟨σ, H6, I6, q6⟩
/-- a name op= e -/
def sAug (X : Cx) (op : Operator) (i : Nat) (te : TE) : TS := fun D σ H => ∃ x, σ[i]? = some (some x) ∧ te σ H fun y H1 => O2 X (inplaceOp op) x y σ H1 fun z H2 => D.nx (σ.set i (some z)) H2
/-- a for's walk over a value -/
def iAny (X : Cx) (te : TE) : TI := fun σ H R => te σ H fun x H1 => IterV X x σ H1 R
theorem pi_any {tg : Expr} (he : PE X e te) : PI X tg e (iAny X te) :=
  ⟨fun pins s σ H R I h => thn (he.run pins s σ H _ I h) fun v s1 ⟨x, H1, I1, r1, q1⟩ => q1 tg pins s1 v I1 r1⟩
end
end Vc

namespace Vc
open PySem PySem.Spec PyProof.Rows L2

/-! ### enumerate(a text) -/
/-- each sign in a new pair with its place -/
def Itse (x : Str) : It := ⟨fun i _ => i < x.cps.size, fun i H v H' => ∃ T c, v = .ref T ∧ H T = none ∧ H' = upd H T (.tup [.int (i : Nat), .str ⟨#[c]⟩]) ∧ x.cps[i]? = some c, fun i _ => x.cps.size = i⟩
theorem turn_enumS {P : Program} {w : World} {K : PySem.W.Frag} {elts : List Expr} {kk : Nat} {tpos : Pos} (x : Str) (t : Tok) (e it : Addr) :
    Turn P w K (.Tuple elts kk tpos) (Itse x) [e, it] e (fun i h => (∃ old, IsEnum h e it ((i : Nat) : Int) old) ∧ h.IsStrIter it (strIterType x) x t i ∧ e ≠ it) := by
  refine ⟨by simp, fun i h st b hb => ?_, fun i h h' st k => ?_, ?_, ?_, fun A i s Q E st h => let ⟨⟨_, he⟩, _⟩ := st; wpAny_pyIter_enum he h⟩
  · obtain ⟨⟨old, he⟩, ⟨o, ho, hc, hd⟩, _⟩ := st
    rcases (by simpa using hb : b = e ∨ b = it) with z | z
    · subst z
      exact ⟨_, he, fun v q => nomatch q⟩
    · subst z
      refine ⟨o, ho, fun v q => ?_⟩
      rw [hd] at q
      cases q
  · obtain ⟨⟨old, he⟩, ⟨o, ho, hc, hd⟩, hne⟩ := st
    exact ⟨⟨old, k e (by simp) _ he⟩, ⟨o, k it (by simp) o ho, hc, hd⟩, hne⟩
  · intro X hP hw hK hc i pins s σ H E I hf st hg
    subst hP hw hK
    obtain ⟨⟨old, he⟩, hit, hne⟩ := st
    have hel : e < s.heap.objs.size := Heap.lt_size he
    have hil : it < s.heap.objs.size := by obtain ⟨_, q, _⟩ := hit; exact Heap.lt_size q
    refine wpAny_pyNext_enum_itemD (Draws.text (A := X.A.in1) (I.ok.hd hc) it x t) he hit hg hne (by simpa using hne) fun v h' tk pv ho hit' hT hsz hk => ?_
    obtain ⟨c, u, hc', rfl⟩ := pv
    refine ⟨_, rfl, wpAny_letOwnedTupleGo_enum (s := { s with heap := h', toks := tk + 1 }) ho fun h'' he' sb => ?_⟩
    have hT2 : h''.get? s.heap.objs.size = some { cls := .type "tuple", data := .seq #[.int i tk, .str ⟨#[c]⟩ u] } := (sb.2 _ (Nat.ne_of_gt hel)).trans hT
    have new : ObjOk X.prog X.w (upd H s.heap.objs.size (.tup [.int (i : Nat), .str ⟨#[c]⟩])) h'' s.heap.objs.size (.tup [.int (i : Nat), .str ⟨#[c]⟩]) :=
      ⟨by show 2 ≤ sizeLine; decide, [.int i tk, .str ⟨#[c]⟩ u], .cons ⟨_, rfl⟩ (.cons ⟨_, rfl⟩ .nil), ⟨_, hT2, rfl, _, rfl⟩⟩
    have out : ∀ b, b ∉ [e, it] → b ≠ e ∧ b ≠ it := fun b hb => ⟨fun z => hb (by simp [z]), fun z => hb (by simp [z])⟩
    have J := I.turnedNew (t' := tk + 1) (ch := [e, it]) (h' := h'') (fun b ob hb q => (sb.2 b (out b hb).1).trans (hk b ob (out b hb).1 (out b hb).2 q)) hf (Nat.le_refl _) new
    refine ⟨.ref s.heap.objs.size, _, J, rfl, ⟨_, c, rfl, I.hok.fresh (Nat.le_refl _), rfl, hc'⟩, ⟨⟨_, by have e1 : ((i + 1 : Nat) : Int) = (i : Int) + 1 := by omega
                                                                                                          rw [e1]; exact he'⟩, ?_, hne⟩, fun b hb => ?_⟩
    · obtain ⟨o, q1, q2, q3⟩ := hit'
      exact ⟨o, (sb.2 it (Ne.symm hne)).trans q1, q2, q3⟩
    · have lt : b < s.heap.objs.size := by
        rcases (by simpa using hb : b = e ∨ b = it) with z | z
        · rw [z]; exact hel
        · rw [z]; exact hil
      rw [upd_ne (Nat.ne_of_lt lt)]
      exact (hf b hb).1
  · intro X hP hw hK hc i pins s σ H E I hf st hg
    subst hP hw hK
    obtain ⟨⟨old, he⟩, hit, hne⟩ := st
    obtain ⟨f0, f1, f2, f3, f4, f5⟩ := hf it (by simp)
    have z : x.cps.size = i := hg
    subst z
    exact wpAny_pyNext_enum_endD (Draws.text (A := X.A.in1) (I.ok.hd hc) it x t) he hit fun h' eb => ⟨rfl, I.turned (t' := s.toks) (fun b o hb q => eb b o hb q) f0 f1 f3 f4 f5⟩
def iEnu (X : Cx) (ta : TA) : TI := fun σ H R => X.mg "enumerate" = none ∧ ta σ H fun vs H1 => (∃ a xs, vs = [.ref a] ∧ SqL X.K H1 a xs ∧ R (Ite X.K a) H1) ∨ ∃ x : Str, vs = [.str x] ∧ R (Itse x) H1
theorem pi_enu {X : Cx} {e : Expr} {ta : TA} {p pos tpos : Pos} {elts : List Expr} {kk : Nat} (hg : Gl X "enumerate") (ha : PA X [e] ta) (hs : starEach [e] X.env = [(false, eval e X.env)]) : PI X (.Tuple elts kk tpos) (.Call (.Name "enumerate" p) [e] [] pos) (iEnu X ta) := by
  refine ⟨fun pins s σ H R I h => ?_⟩
  obtain ⟨hm, h⟩ := h
  refine Call_ (ld_blt I hg hm boot_enumerate (PyProof.Rows.callWith_type1 (thn (ha.run pos pins s σ H _ I h) fun us s1 ⟨vs, H1, I1, r1, q1⟩ => ?_) hs rfl))
  have fp : ∀ b ∈ [s1.heap.objs.size + 1, s1.heap.objs.size], FpOk X pins H1 b := fun b hb => by
    have hle : s1.heap.objs.size ≤ b := by
      rcases (by simpa using hb : b = s1.heap.objs.size + 1 ∨ b = s1.heap.objs.size) with z | z
      · rw [z]; exact Nat.le_succ _
      · rw [z]; exact Nat.le_refl _
    exact I1.fpOk hle (I1.hok.fresh hle)
  rcases q1 with ⟨a, xs, ex, hq, q⟩ | ⟨x, ex, q⟩
  · subst ex
    cases r1 with
    | cons r rr =>
      cases rr
      cases r
      obtain ⟨its, rv, p', hz⟩ := I1.list hq
      refine call_enumerate_list p'.isList fun h' he hit hsz hk => wpAny_pyIter_enum he ?_
      exact ⟨s1.heap.objs.size + 1, [s1.heap.objs.size + 1, s1.heap.objs.size], _, _, H1, rfl, I1.kept (t' := s1.toks) hk, turn_enum a (s1.heap.objs.size + 1) s1.heap.objs.size, ⟨⟨.none, he⟩, hit, Nat.succ_ne_self _⟩, fp, q⟩
  · subst ex
    cases r1 with
    | cons r rr =>
      cases rr
      obtain ⟨t, rfl⟩ := r
      refine call_enumerate_str fun h' he hit hsz hk => wpAny_pyIter_enum he ?_
      exact ⟨s1.heap.objs.size + 1, [s1.heap.objs.size + 1, s1.heap.objs.size], _, _, H1, rfl, I1.kept (t' := s1.toks) hk, turn_enumS x t (s1.heap.objs.size + 1) s1.heap.objs.size, ⟨⟨.none, he⟩, hit, Nat.succ_ne_self _⟩, fp, q⟩
def isTup : Expr → Bool
  | .Tuple _ _ _ => true
  | _ => false
end Vc

namespace Vc
open PySem PySem.Spec PyProof.Rows L2 LamX

/-! ### x() of a local name -/
def CV0 (X : Cx) (x : V) : TE := fun σ H Q => ∀ (pos : Pos) (pins : List (Addr × Obj)) (s : Shared) (v : Value), Inv X pins σ H s → RelV x v → wpAny (model X.prog X.w) X.A (callWith pos v [] [] []) (EP X pins σ Q) X.xe s
def tCallL0 (X : Cx) (i : Nat) : TE := fun σ H Q => ∃ x, σ[i]? = some (some x) ∧ CV0 X x σ H Q
theorem pe_callL0 {X : Cx} {i : Nat} {a : Str} {p1 p2 : Pos} (hN : X.N[i]? = some a) (hv : Vis X.env.scope a) (hd : (a == ("__debug__" : Str)) = false) (hcd : (a == ("__classdict__" : Str)) = false) : PE X (.Call (.Name a p1) [] [] p2) (tCallL0 X i) := by
  refine ⟨fun pins s σ H Q I h => ?_⟩
  obtain ⟨x, hx, h⟩ := h
  refine wpAny_Call_Name_kw (thn ((pe_var (pos := p1) (i := i) hN hv hd hcd).run pins s σ H (fun v H1 => v = x ∧ H1 = H) I ⟨x, hx, rfl, rfl⟩) fun u s1 ⟨v, H1, I1, r1, e1, e2⟩ => ?_)
  subst e1 e2
  exact h p2 pins s1 u I1 r1

/-! ### x(lambda: body) -/
/-- the context of the lambda's body, with near and far exceptions -/
def lamCxV (X : Cx) (A : Around) (outer : List Env) (s : Shared) (H : Hp) (E : XK) (scope : Scope) (f c' : Addr) : Cx :=
  (lamCx X A outer s H E scope f c').wish fun e s' => wpAny (model X.prog X.w) (A.deeper (lamEnv X scope s.heap.objs.size f c')) (leaving (lamEnv X scope s.heap.objs.size f c') e) (fun _ s'' => CXV X.prog X.w outer H s E e s'') (fun e' s'' => CXV X.prog X.w outer H s E e' s'') s'
/-- the contexts of the lambda's body -/
def LamCtx (X : Cx) (k : Nat) (E : XK) (Y : Cx) : Prop := ∃ (A : Around) (outer : List Env) (s : Shared) (H : Hp) (scope : Scope) (f c' : Addr), Y = lamCxV X A outer s H E scope f c' ∧ Room k (A.deeper (lamEnv X scope s.heap.objs.size f c'))
/-- the context of the def that got the lambda -/
abbrev gotCx (X : Cx) (M : CXT) (E : XK) (N : List Str) (q : Str) (sc : Scope) (g : Addr) (cd : Value) (s : Shared) (H : Hp) : Cx := cxOf M X.prog X.w X.K X.mg X.base N q sc g cd X.A X.stack s H E
/-- in the context Z (and in its tries) a call of f does what the reading tb of the lambda's body says, at the maker's slots σ -/
def Acts (X : Cx) (σ : L2.St) (tb : Cx → TE) (c' f : Addr) (k : Nat) (Z : Cx) : Prop :=
  ∀ (pn : List (Addr × Obj)) (xe : Value → Shared → Prop) (W2 : WX), TakesV (Z.tr pn xe) W2 → ∀ (σZ : L2.St) (HZ : Hp) (Q : VK), HZ c' = some (CodeO c' (X.env.qual ++ "<lambda>")) →
    (∀ Y, LamCtx X k (fun cls d H' => W2 cls d σZ H') Y → tb Y σ HZ Q) → CV0 (Z.tr pn xe) (.ref f) σZ HZ Q
/-- what is known of the maker: its code object at c, its table at P -/
structure Makes (X : Cx) (c P : Addr) (T : List (Addr × Str)) : Prop where
  tb : TabB X.base X.mg c P
  co : X.env.code = .ref c
  mem : (P, X.env.qual ++ "<lambda>") ∈ T
  one : ∀ p ∈ T, p.1 = P → p.2 = X.env.qual ++ "<lambda>"
def tLamR (X : Cx) (x : Str) (tb : Cx → TE) : TE := fun σ H Q => ∃ (g c P : Addr) (T : List (Addr × Str)) (k : Nat), Cal X x (.ref g) ∧ Makes X c P T ∧ Tabs T H ∧ Room (k + 2) X.A ∧
  ∀ (H1 : Hp) (f c' : Addr) (pins : List (Addr × Obj)) (s' : Shared), ExtN H H1 → Tabs T H1 → H1 c' = some (CodeO c' (X.env.qual ++ "<lambda>")) → Inv X pins σ H1 s' →
    (∀ (M : CXT) (E : XK) (N : List Str) (q : Str) (sc : Scope) (cd : Value), Room (k + 1) (X.A.deeper (envOfC q sc s'.heap.objs.size g cd)) → Acts X σ tb c' f k (gotCx X M E N q sc g cd s' H1)) →
    wpAny (model X.prog X.w) X.A (call (.ref g) [.ref f]) (EP X pins σ Q) X.xe s'
section
variable {X : Cx} {pins : List (Addr × Obj)} {σ : L2.St} {H : Hp} {s : Shared}
/-- no parameters -/
def noPar : Arguments → Bool
  | ⟨[], [], none, [], [], none, []⟩ => true
  | _ => false
theorem lam_acts {M : CXT} {E : XK} {N : List Str} {q : Str} {sc : Scope} {g f c' : Addr} {cd pm ctv : Value} {params : Arguments} {body : Expr} {scope : Scope} {k : Nat} {tb : Cx → TE} (I : Inv X pins σ H s) (L : LamS X.env.scope scope)
    (hf : s.heap.get? f = some (PySem.W.kla_obj "<lambda>" (X.env.qual ++ "<lambda>") params body scope (cloFrom X.env.cells scope.names []) pm c' ctv)) (hfn : H f = none) (hfr : f ∉ frs X.stack)
    (hbind : bindArgs (PySem.W.kla_fn "<lambda>" (X.env.qual ++ "<lambda>") params body scope (cloFrom X.env.cells scope.names []) pm (.ref c') ctv) ⟨[], []⟩ = pure [])
    (hr : Room (k + 1) (X.A.deeper (envOfC q sc s.heap.objs.size g cd))) (hbody : ∀ Y E', LamCtx X k E' Y → Y.env.scope = scope → Y.N = X.N → PE Y body (tb Y)) :
    Acts X σ tb c' f k (gotCx X M E N q sc g cd s H) := by
  intro pn xe W2 tk σZ HZ Q hc ht pos pinsZ sZ v IZ rv
  obtain rfl : v = Value.ref f := rv
  have there : sZ.heap.get? f = some (PySem.W.kla_obj "<lambda>" (X.env.qual ++ "<lambda>") params body scope (cloFrom X.env.cells scope.names []) pm c' ctv) := IZ.base.keep f _ hf hfn hfr fun z => nomatch (show f ∈ ([] : List Addr) from z)
  refine PySem.W.callWith_F0 (env := X.env) ⟨_, _, _, _, there⟩ ?_
  have un : Un (frs X.stack) [] H HZ s.heap sZ.heap := IZ.base
  obtain ⟨⟨oc, vs, t, hoc, hdc, hvc⟩, _, _⟩ := IZ.hok c' _ hc
  have go : codeAny (model X.prog X.w) (X.A.deeper (envOfC q sc s.heap.objs.size g cd)) (.call (.ref f) ⟨[], []⟩) (CR (CXV X.prog X.w) (envOfC q sc s.heap.objs.size g cd :: X.stack) X.prog X.w HZ sZ Q (WE W2 σZ)) sZ := by
    refine PySem.W.kla_callFunE hr.depth there rfl L.co L.gen rfl ⟨c', oc, vs, t, rfl, hoc, hdc, hvc⟩ ?_
    rw [hbind]
    refine wpAny_pure (wpAny_newFunctionEnv (fun y hy => (L.own y hy).2) (fun y hy => absurd hy (by simp)) (fun h₁ hns hsb => ⟨IZ.nolimit.fresh _ hsb, ?_⟩) L.kind)
    show codeAny _ _ (.expr body (lamEnv X scope sZ.heap.objs.size f c')) _ _
    have keep1 : ∀ b o, sZ.heap.get? b = some o → h₁.get? b = some o := fun b o e => hsb.extBut b o (Nat.ne_of_lt (Heap.lt_size e)) (Heap.get?_push_of_some _ e)
    have rm : Room k ((X.A.deeper (envOfC q sc s.heap.objs.size g cd)).deeper (lamEnv X scope sZ.heap.objs.size f c')) := hr.deeper _
    have J : Inv (lamCxV X (X.A.deeper (envOfC q sc s.heap.objs.size g cd)) (envOfC q sc s.heap.objs.size g cd :: X.stack) sZ HZ (WE W2 σZ) scope f c') [] σ HZ { sZ with heap := h₁, toks := sZ.toks + ([] : List (Str × Value)).length } :=
      (lam_start2 I L IZ.env0 hr.hd un hns keep1).wish _
    have lc : LamCtx X k (WE W2 σZ) (lamCxV X (X.A.deeper (envOfC q sc s.heap.objs.size g cd)) (envOfC q sc s.heap.objs.size g cd :: X.stack) sZ HZ (WE W2 σZ) scope f c') := ⟨_, _, _, _, _, _, _, rfl, rm⟩
    refine PySem.W.kla_codeExpr (wpAny_mono ((hbody _ _ lc rfl rfl).run [] _ _ HZ Q J (ht _ lc)) (fun v s' hq => ?_) fun e s' hq => hq)
    obtain ⟨w', H', J', rv, q'⟩ := hq
    exact ⟨w', H', J'.os, J'.bare, J'.base, J'.hok, rv, q'⟩
  refine wpAny_call (codeAny_mono go fun r s' hq => ?_)
  cases r with
  | error e => exact passV tk σZ pinsZ HZ sZ e s' IZ hq
  | ok fl =>
    cases fl with
    | ret u => exact IZ.after hq
    | next => exact False.elim hq
    | brk => exact False.elim hq
    | cont => exact False.elim hq
theorem pe_lamR {x : Str} {params : Arguments} {body : Expr} {scope : Scope} {tb : Cx → TE} {p lpos pos : Pos} (hg : Gl X x) (hdb : (x == ("__debug__" : Str)) = false) (L : LamS X.env.scope scope) (hp : noPar params = true)
    (hbody : ∀ k Y E, LamCtx X k E Y → Y.env.scope = scope → Y.N = X.N → PE Y body (tb Y)) : PE X (.Call (.Name x p) [.Lambda params body scope lpos] [] pos) (tLamR X x tb) := by
  obtain rfl : params = ⟨[], [], none, [], [], none, []⟩ := by
    unfold noPar at hp
    split at hp
    · rfl
    · cases hp
  refine ⟨fun pins s σ H Q I h => ?_⟩
  obtain ⟨g, c, P, T, k, cal, mk, hT, hr, h⟩ := h
  cases cal with
  | own hm hk =>
    refine wpAny_Call_Name_kw (ld_glob I hg hm ?_ hdb)
    refine PySem.W.callWith_K (h₀ := X.base) I.ok.mod.kin hk ?_ (by rfl) (by rfl)
    show wpAny _ _ (spliced ((false, eval (.Lambda ⟨[], [], none, [], [], none, []⟩ body scope lpos) X.env) :: backTo pos (starEach [] X.env))) _ _ _
    refine Calls.spliced_cons (lam_make2 I mk.tb mk.co mk.mem mk.one hT (by rfl) (L.has I.ok) fun f c' pm ctv H1 s' I1 eN T1 hf hfn hfr hco => Calls.spliced_nil ⟨I1.kIn, ?_⟩)
    refine h H1 f c' pins s' eN T1 hco I1 fun M E N q sc cd hr' => ?_
    exact lam_acts I1 L hf hfn hfr (by rfl) hr' fun Y E' lc e1 e2 => hbody k Y E' lc e1 e2
end
def isCall : Expr → Bool
  | .Call _ _ _ _ => true
  | .UnaryOp _ _ _ => true
  | _ => false
end Vc

namespace Vc
open PySem PySem.Spec PyProof.Rows L2
/-! ### sorted(xs, key=f), what f does told by the layer -/
abbrev SmH (H H' : Hp) : Prop := ∀ b o, H b = some o → H' b = some o
theorem smh_upd {H : Hp} {p : Addr} {o : HO} (h : H p = none) : SmH H (upd H p o) := fun b u e => by
  rw [upd_ne (ne_of_none e h)]
  exact e
section
open PySem.W
variable {prog : Program} {w : World} {A : Around} {E : Value → Shared → Prop} {s : Shared} {a kS : Addr} {b : Bool} {vs : List Value} {e1 : Nat} {P : PySem.Fin → Shared → Prop} {f : Value}
/-- the keys are made, one after the other -/
theorem sk_loop (J : Nat → Shared → Prop) (h0 : J 0 s)
    (turn : ∀ (j : Nat) (v : Value) (s' : Shared), vs[j]? = some v → J j s' → wpAny (model prog w) A (call f [v]) (fun k s2 => ∃ (kA : Array Value) (e : Nat), s2.heap.get? kS = some (seqObj "list" kA e) ∧ kA.size < sizeLine ∧
      ∀ g : Heap, g = s2.heap.update kS (Obj.mapSeq (·.push k)) → J (j + 1) { s2 with heap := g }) (fun _ _ => False) s')
    (done : ∀ s', J vs.length s' → ∃ (kA : Array Value) (e : Nat), s'.heap.get? kS = some (seqObj "list" kA e) ∧ wpAny (model prog w) A (ksk_end a b vs.toArray e1 (.ref kS) kA) P E s') : wpAny (model prog w) A (ksk_rest a f b vs.toArray e1 (.ref kS)) P E s := by
  unfold ksk_rest
  refine wpAny_bind (wpAny_rule ?_)
  first
    | rw [List.forIn_toArray]
    | (rw [← Array.forIn_toList, List.toList_toArray])
  refine wpAny_bind (ksk_fold J vs 0 s h0 (fun j x s' hx hJ => ?_) fun s' hJ => ?_)
  · rw [Nat.zero_add] at hJ ⊢
    refine wpAny_bind (wpAny_attempt (wpAny_mono (turn j x s' hx hJ) (fun k s2 hk => ?_) fun _ _ no => no.elim))
    obtain ⟨kA, e, hS, hz, hn⟩ := hk
    dsimp only
    refine wpAny_bind (listUpdate_at hS rfl (wpAny_pure ⟨rfl, hn _ rfl⟩) (Nat.le_of_lt hz) ?_)
    show (kA.push k).size ≤ _
    rw [Array.size_push]
    omega
  · rw [Nat.zero_add] at hJ
    obtain ⟨kA, e, hS, hd⟩ := done s' hJ
    exact wpAny_bind (listItems_at hS rfl hd)
end

section
open PySem.W
variable {X : Cx} {pins : List (Addr × Obj)} {σ : L2.St} {H : Hp} {s : Shared}
theorem reads_of {K : PySem.W.Frag} {zs : List V} {us : List Value} {ds : List PyData} (hK : K = X.K) (I : Inv X pins σ H s) (rv : Vals zs us) (d : DpAll K H zs ds) : EachIs (fun v d => ∃ as, Reads s.heap v d as) us ds := by
  subst hK
  obtain ⟨as, r⟩ := Dp.readsAll I ds zs us d rv
  have : EachIs (fun v d => ∃ as, Reads s.heap v (id d) as) us ds := readsAll_each id (by rw [List.map_id]; exact r)
  exact this
theorem vals_of_each {α : Type} (g : α → V) : ∀ {us : List Value} {bs : List α}, EachIs (fun v x => RelV (g x) v) us bs → Vals (bs.map g) us
  | _, _, .nil => .nil
  | _, _, .cons h t => .cons h (vals_of_each g t)
theorem each_of_vals {α : Type} (g : α → V) : ∀ {us : List Value} {bs : List α}, Vals (bs.map g) us → EachIs (fun v x => RelV (g x) v) us bs
  | [], [], _ => .nil
  | u :: us, [], h => by cases h
  | [], x :: bs, h => by cases h
  | u :: us, x :: bs, h => by
    cases h with
    | cons h t => exact .cons h (each_of_vals g t)
/-- a key: a number, or a pair of numbers -/
inductive KeyV (H : Hp) : V → PyData → Prop where
  | int (i : Int) : KeyV H (.int i) (.int i)
  | pair {t : Addr} {i j : Int} (h : H t = some (.tup [.int i, .int j])) : KeyV H (.ref t) (.tuple [.int i, .int j])
theorem KeyV.x {H H' : Hp} {z : V} {d : PyData} {D : Addr} {xs : List V} (h : KeyV H z d) (hD : H D = some (.lst xs)) (s : ∀ b o, b ≠ D → H b = some o → H' b = some o) : KeyV H' z d := by
  cases h with
  | int i => exact .int i
  | pair h => exact .pair (s _ _ (fun e => by rw [e, hD] at h; cases h) h)
theorem KeyV.same {H H' : Hp} {z : V} {d : PyData} (h : KeyV H z d) (s : SmH H H') : KeyV H' z d := by
  cases h with
  | int i => exact .int i
  | pair h => exact .pair (s _ _ h)
theorem KeyV.dp {K : PySem.W.Frag} {H : Hp} {z : V} {d : PyData} (h : KeyV H z d) : Dp K H z d := by
  cases h with
  | int i => exact .int i
  | pair h => exact .tup (.of h) (.cons (.int _) (.cons (.int _) .nil))
theorem keys_dp {K : PySem.W.Frag} {H : Hp} : ∀ {zs : List V} {ks : List PyData}, zs.length = ks.length → (∀ (i : Nat) z d, zs[i]? = some z → ks[i]? = some d → KeyV H z d) → DpAll K H zs ks
  | [], [], _, _ => .nil
  | [], _ :: _, h, _ => by cases h
  | _ :: _, [], h, _ => by cases h
  | z :: zs, d :: ks, h, g => .cons (g 0 z d rfl rfl).dp (keys_dp (Nat.succ.inj h) fun i z d a b => g (i + 1) z d a b)
/-- the items by their keys -/
noncomputable def byKey (xs : List V) (ks : List PyData) : List V := ((xs.zip ks).mergeSort (dataLe false Prod.snd)).map Prod.fst
theorem sorted_key {l : Addr} {xs : List V} {ks : List PyData} {f : Addr} {Q : VK} (hc : X.calm = true) (I : Inv X pins σ H s) (hs : SqL X.K H l xs) (hlen : ks.length = xs.length) (hal : AllAlike ks) (hsk : PySem.W.Sortable ks) (hu : ∀ d ∈ ks, X.A.units + 2 + d.depth < cLine)
    (turn : ∀ (j : Nat) (y : V) (d : PyData), xs[j]? = some y → ks[j]? = some d → ∀ (pins1 : List (Addr × Obj)) (H1 : Hp) (s1 : Shared) (v : Value), (∀ p ∈ pins, p ∈ pins1) → SmH H H1 → Inv X pins1 σ H1 s1 → RelV y v →
      wpAny (model X.prog X.w) X.A.in1.in1 (call (.ref f) [v]) (EP X pins1 σ fun z H2 => SmH H1 H2 ∧ KeyV H2 z d) (fun _ _ => False) s1)
    (q : ∀ p H', H p = none → SmH H H' → H' p = some (.lst (byKey xs ks)) → Q (.ref p) H') :
    wpAny (model X.prog X.w) X.A (call (.builtin "sorted") [.ref l] [(Str.ofString "key", .ref f)]) (EP X pins σ Q) X.xe s := by
  obtain ⟨its, rv, hl, hz⟩ := I.list hs
  have hil := rv.length
  refine sorted_of_sort (vs := its) hl.isList (by omega) (ksk_s1 _ _) (fun x => ksk_l1 _ _) fun E' => ?_
  rw [ksk_t1]
  have fa : H (s.heap.objs.size + 1) = none := I.hok.fresh (Nat.le_succ _)
  have ha := copyHeap_at s.heap its
  have szc : (copyHeap s.heap its).objs.size = s.heap.objs.size + 2 := by
    unfold copyHeap
    rw [size_push', Heap.size_update, size_push']
  generalize eA : s.heap.objs.size + 1 = a at fa ha ⊢
  have a2 : s.heap.objs.size ≤ a := by omega
  unfold ksk_tree
  refine wpAny_bind (listItems_at ha rfl ?_)
  refine wpAny_bind (listUpdate_at ha rfl ?_ (by rw [List.size_toArray]; omega) (Nat.zero_le _))
  have ha1 := get?_update_seq ha fun _ => (#[] : Array Value)
  generalize eE : (if ((fun _ : Array Value => (#[] : Array Value)) its.toArray).size == its.toArray.size then 0 else 0 + 1) = e1 at ha1
  refine wpAny_bind (seqEpoch_at ha1 rfl ?_)
  refine wpAny_bind (wpAny_newTuple ?_ (by show its.length ≤ _; omega))
  refine wpAny_bind (wpAny_newList ?_ (Nat.zero_le _))
  refine wpAny_holding ?_
  -- the state that the keys are made in
  have sz1 : ((copyHeap s.heap its).update a (Obj.mapSeq fun _ => (#[] : Array Value))).objs.size = s.heap.objs.size + 2 := by rw [Heap.size_update, szc]
  have ko : ∀ b o, s.heap.get? b = some o → ((((copyHeap s.heap its).update a (Obj.mapSeq fun _ => (#[] : Array Value))).push (seqObj "tuple" its.toArray 0)).push (seqObj "list" #[] 0)).get? b = some o := fun b o e => by
    refine Heap.get?_push_of_some _ (Heap.get?_push_of_some _ ?_)
    have nb : b ≠ a := fun z => Nat.lt_irrefl _ (Nat.lt_of_lt_of_le (Heap.lt_size e) (by rw [z]; exact a2))
    rw [(Heap.SameBut.update (copyHeap s.heap its) a (Obj.mapSeq fun _ => (#[] : Array Value))).2 b nb]
    exact copyHeap_old e
  have hS := Heap.get?_push_size (((copyHeap s.heap its).update a (Obj.mapSeq fun _ => (#[] : Array Value))).push (seqObj "tuple" its.toArray 0)) (o := seqObj "list" #[] 0) rfl
  have ha3 := Heap.get?_push_of_some (seqObj "list" #[] 0) (Heap.get?_push_of_some (seqObj "tuple" its.toArray 0) ha1)
  have szS : (((copyHeap s.heap its).update a (Obj.mapSeq fun _ => (#[] : Array Value))).push (seqObj "tuple" its.toArray 0)).objs.size = s.heap.objs.size + 3 := by rw [size_push', sz1]
  have nofr : ∀ c : Addr, s.heap.objs.size ≤ c → c ≠ X.env.locals ∧ c ∉ X.fs := fun c hc => ⟨fun z => Nat.lt_irrefl _ (Nat.lt_of_lt_of_le I.lt (by rw [← z]; exact hc)), I.nofs hc⟩
  revert ko hS ha3 szS
  generalize ((copyHeap s.heap its).update a (Obj.mapSeq fun _ => (#[] : Array Value))).push (seqObj "tuple" its.toArray 0) = h1
  intro ko hS ha3 szS
  generalize eK : h1.objs.size = kS at hS ⊢
  have k2 : s.heap.objs.size ≤ kS := by omega
  have nKa : kS ≠ a := by omega
  have fk : H kS = none := I.hok.fresh k2
  generalize h1.push (seqObj "list" #[] 0) = h2 at ko hS ha3 ⊢
  have okP : ∀ (c : Addr) (o : Obj), s.heap.objs.size ≤ c → (∀ v, o.data ≠ .cell v) → ∀ {H' : Hp} {s' : Shared}, s'.heap.get? c = some o → H' c = none → s'.heap.get? c = some o ∧ H' c = none ∧ c ≠ X.env.locals ∧ c ∉ X.fs ∧ ∀ v, o.data ≠ .cell v := fun c o hc hd {H' s'} h1 h2 => ⟨h1, h2, (nofr c hc).1, (nofr c hc).2, hd⟩
  have I2 : Inv X pins σ (upd H kS (.lst [])) { s with heap := h2, toks := s.toks } := I.laid ko k2 ⟨Nat.zero_le _, [], 0, .nil, hS⟩
  have I3 : Inv X ((a, seqObj "list" #[] e1) :: pins) σ (upd H kS (.lst [])) { s with heap := h2, toks := s.toks } := I2.pins_of fun p hp => by
    rcases List.mem_cons.mp hp with rfl | hp
    · exact okP a _ a2 (fun v z => by cases z) ha3 (by rw [upd_ne (Ne.symm nKa)]; exact fa)
    · exact I2.pin p (List.mem_append_right _ hp)
  refine sk_loop (fun j s' => ∃ (Hj : Hp) (zs : List V), Inv X ((a, seqObj "list" #[] e1) :: pins) σ Hj s' ∧ Hj kS = some (.lst zs) ∧ SmH H Hj ∧ zs.length = j ∧ ∀ (i : Nat) z d, zs[i]? = some z → ks[i]? = some d → KeyV Hj z d) ⟨_, [], I3, upd_same, smh_upd fk, rfl, fun i z d e => by simp at e⟩ (fun j v s' hv hJ => ?_) (fun s' hJ => ?_)
  · obtain ⟨Hj, zs, Ij, hj, sj, lj, dj⟩ := hJ
    have hjl : j < its.length := (List.getElem?_eq_some_iff.mp hv).1
    obtain ⟨y, hy⟩ : ∃ y, xs[j]? = some y := ⟨_, List.getElem?_eq_getElem (by omega)⟩
    obtain ⟨d, hd⟩ : ∃ d, ks[j]? = some d := ⟨_, List.getElem?_eq_getElem (by omega)⟩
    obtain ⟨u, hu', ry⟩ := rv.get hy
    rw [hv] at hu'
    cases hu'
    refine wpAny_mono (turn j y d hy hd _ Hj s' v (fun p hp => List.mem_cons_of_mem _ hp) sj Ij ry) (fun k s2 hk => ?_) fun _ _ z => z
    obtain ⟨z, H2, J2, rz, s12, dz⟩ := hk
    have hS2 := s12 _ _ hj
    obtain ⟨zl, zi, zn, zr, ze⟩ := J2.hok _ _ hS2
    have zlen := zr.length
    refine ⟨zi.toArray, zn, ze, by rw [List.size_toArray]; omega, fun g eg => ?_⟩
    subst eg
    have ge := get?_update_seq ze (·.push k)
    have J3 : Inv X ((a, seqObj "list" #[] e1) :: pins) σ (upd H2 kS (.lst (zs ++ [z]))) { s2 with heap := s2.heap.update kS (Obj.mapSeq (·.push k)), toks := s2.toks } :=
      J2.write (x := kS) (e := kS) (by rw [hS2]; trivial) (.inl rfl) (fun b u nb e => ((Heap.SameBut.update s2.heap kS (Obj.mapSeq (·.push k))).2 b nb).trans e) ⟨_, ge⟩ ⟨by rw [List.length_append]; show zs.length + 1 ≤ _; omega, zi ++ [k], _, zr.append (.cons rz .nil), by rw [ge]; congr 2; simp⟩
    have sx : SmH Hj H2 := s12
    refine ⟨_, _, J3, upd_same, fun b o e => by rw [upd_ne (ne_of_none e fk)]; exact sx _ _ (sj _ _ e), by rw [List.length_append, lj]; rfl, fun i z' d' e1 e2 => ?_⟩
    by_cases hi : i < zs.length
    · rw [List.getElem?_append_left hi] at e1
      exact ((dj i z' d' e1 e2).same sx).x hS2 fun b o nb e => by rw [upd_ne nb]; exact e
    · have hi' : i = j := by
        have := (List.getElem?_eq_some_iff.mp e1).1
        rw [List.length_append] at this
        have h1' : [z].length = 1 := rfl
        omega
      subst hi'
      rw [List.getElem?_append_right (by omega), lj, Nat.sub_self] at e1
      cases e1
      rw [hd] at e2
      cases e2
      exact dz.x hS2 fun b o nb e => by rw [upd_ne nb]; exact e
  · obtain ⟨Hn, zs, In, hn, sn, ln, dn⟩ := hJ
    obtain ⟨zl, zi, zn, zr, ze⟩ := In.hok _ _ hn
    have zlen := zr.length
    obtain ⟨pa, _⟩ := In.pin (a, seqObj "list" #[] e1) (List.mem_append_right _ List.mem_cons_self)
    have In0 : Inv X pins σ Hn s' := In.pins_of fun p hp => In.pin p (List.mem_append_right _ (List.mem_cons_of_mem _ hp))
    have hna : Hn a = none := (In.pin (a, seqObj "list" #[] e1) (List.mem_append_right _ List.mem_cons_self)).2.1
    refine ⟨zi.toArray, zn, ze, ?_⟩
    have rd : EachIs (fun v d => ∃ as, Reads s'.heap v d as) zi ks := reads_of rfl In zr (keys_dp (by omega) dn)
    -- the keys' list apart
    have hb : ∀ b o, (s'.heap.update kS (fun _ => (⟨.none, none, .freed, #[]⟩ : Obj))).get? b = some o → b ≠ kS ∧ s'.heap.get? b = some o := fun b o e => by
      have nb : b ≠ kS := fun z => by
        subst z
        obtain ⟨e1', e2'⟩ := (Heap.get?_eq_some _ _ _).mp e
        rw [Heap.objs_update_self, ((Heap.get?_eq_some _ _ _).mp ze).1] at e1'
        cases e1'
        cases e2'
      exact ⟨nb, by rw [← (Heap.SameBut.update s'.heap kS (fun _ => (⟨.none, none, .freed, #[]⟩ : Obj))).2 b nb]; exact e⟩
    refine keyH_end (κ := dataKind s'.heap ks) (h₁ := s'.heap.update kS (fun _ => (⟨.none, none, .freed, #[]⟩ : Obj))) (fun b o _ e => (hb b o e).2) ?_ ze pa nKa (by rw [List.toList_toArray]; exact SortsAt.data rd hal hsk fun d hd => hu d hd) (by rw [List.size_toArray]; omega) (by omega) fun h3 tk3 c k3 n3 => ⟨rfl, ?_⟩
    · cases e : (s'.heap.update kS (fun _ => (⟨.none, none, .freed, #[]⟩ : Obj))).get? kS with
      | none => rfl
      | some o => exact absurd rfl (hb kS o e).1
    -- the list's values
    have zf : (xs.zip ks).map Prod.fst = xs := List.map_fst_zip (by omega)
    have zs' : (xs.zip ks).map Prod.snd = ks := List.map_snd_zip (by omega)
    have ez : EachIs (fun v x => RelV (Prod.fst x) v) its (xs.zip ks) := each_of_vals Prod.fst (by rw [zf]; exact rv)
    have out : KeyedOut false ((xs.zip ks).map Prod.snd) its (sortVals (dataKind s'.heap ks) false zi its) := by
      rw [zs']
      exact ⟨s'.heap, zi, hal, rfl, rd⟩
    have eo := keyedOut_each Prod.snd out ez
    have vo : Vals (byKey xs ks) (sortVals (dataKind s'.heap ks) false zi its) := vals_of_each Prod.fst eo
    have ol := vo.length
    have outl : (sortVals (dataKind s'.heap ks) false zi its).length = its.length := sortVals_length false (by omega)
    rw [List.toList_toArray] at n3
    -- the heap at the end
    let Hf : Hp := fun b => if b = a then some (.lst (byKey xs ks)) else if b = kS then none else Hn b
    have fA : Hf a = some (.lst (byKey xs ks)) := if_pos rfl
    have fO : ∀ b, b ≠ a → b ≠ kS → Hf b = Hn b := fun b h1 h2 => by
      show (if b = a then _ else if b = kS then none else Hn b) = _
      rw [if_neg h1, if_neg h2]
    have keepO : ∀ b o, b ≠ a → b ≠ kS → s'.heap.get? b = some o → h3.get? b = some o := fun b o h1 h2 e => k3 b o h1 (by
      rw [(Heap.SameBut.update s'.heap kS (fun _ => (⟨.none, none, .freed, #[]⟩ : Obj))).2 b h2]
      exact e)
    have nk : ∀ b, Hn b = none → b ≠ kS := fun b e z => by rw [z, hn] at e; cases e
    have na' : ∀ b u, Hn b = some u → b ≠ a := fun b u e z => by rw [z, hna] at e; cases e
    have cellN : ∀ x c, X.env.cells.lookup x = some c → c ≠ a ∧ c ≠ kS := fun x c e => by
      obtain ⟨v, o, ho, _⟩ := I.cell x c e
      have lt := Heap.lt_size ho
      exact ⟨fun z => Nat.lt_irrefl _ (Nat.lt_of_lt_of_le lt (by rw [z]; exact a2)), fun z => Nat.lt_irrefl _ (Nat.lt_of_lt_of_le lt (by rw [z]; exact k2))⟩
    have pinN : ∀ p ∈ X.pn ++ pins, p.1 ≠ a ∧ p.1 ≠ kS := fun p hp => by
      have lt := Heap.lt_size (I.pin p hp).1
      exact ⟨fun z => Nat.lt_irrefl _ (Nat.lt_of_lt_of_le lt (by rw [z]; exact a2)), fun z => Nat.lt_irrefl _ (Nat.lt_of_lt_of_le lt (by rw [z]; exact k2))⟩
    have J : Inv X pins σ Hf { s' with heap := h3, gens := s'.gens, drawn := s'.drawn, toks := tk3 } := by
      refine In0.step (ch := [a, kS]) (fun b hb => ?_) (fun b o _ _ nb e n => keepO b o (fun z => nb (by rw [z]; simp)) (fun z => nb (by rw [z]; simp)) e) (fun b o _ _ nb e n => ⟨o.slots, keepO b o (fun z => nb (by rw [z]; simp)) (fun z => nb (by rw [z]; simp)) e⟩)
        (fun b o nb e n => by rw [fO b (fun z => nb (by rw [z]; simp)) (fun z => nb (by rw [z]; simp))]; exact n) (fun b o nb e => ⟨o, keepO b o (fun z => nb (by rw [z]; simp)) (fun z => nb (by rw [z]; simp)) e⟩)
        (fun b ys e => ?_) (fun b o u e => ?_) (fun b ps e => ?_) (fun m hm => ?_) (fun b u e => ?_) In0.bare
      · rcases List.mem_cons.mp hb with rfl | hb
        · exact ⟨.inr (Nat.le_trans I.sz a2), (nofr b a2).1, fun x c e => (cellN x c e).1, fun p hp => (pinN p hp).1⟩
        · rw [List.mem_singleton.mp hb]
          exact ⟨.inr (Nat.le_trans I.sz k2), (nofr kS k2).1, fun x c e => (cellN x c e).2, fun p hp => (pinN p hp).2⟩
      · rw [fO b (na' b _ e) (fun z => by rw [z, hn] at e; cases e)]
        exact e
      · rw [fO b (na' b _ e) (fun z => by rw [z, hn] at e; cases e)]
        exact e
      · rw [fO b (na' b _ e) (fun z => by rw [z, hn] at e; cases e), e]
        exact ⟨#[], by simp⟩
      · obtain ⟨ob, es, ep, ho, r⟩ := hm
        exact ⟨ob, es, ep, keepO _ ob (fun z => (nofr a a2).1 z.symm) (fun z => (nofr kS k2).1 z.symm) ho, r⟩
      · by_cases ba : b = a
        · subst ba
          rw [fA] at e
          cases e
          exact ⟨by rw [ol, outl]; omega, _, c, vo, n3⟩
        · by_cases bk : b = kS
          · subst bk
            have : Hf b = none := by
              show (if b = a then _ else if b = b then none else Hn b) = _
              rw [if_neg ba, if_pos rfl]
            rw [this] at e
            cases e
          · rw [fO b ba bk] at e
            refine (In0.hok b u e).stay (fun c' w' hc q' => ?_) (fun c' q' => ?_) fun c' ys q' => ?_
            · refine keepO c' w' (fun z => ?_) (fun z => ?_) q'
              · rcases hc with rfl | hc
                · exact ba z
                · exact na' c' _ hc z
              · rcases hc with rfl | hc
                · exact bk z
                · rw [z, hn] at hc
                  cases hc
            · rw [fO c' (na' c' _ q') (fun z => by rw [z, hn] at q'; cases q')]
              exact q'
            · rw [fO c' (na' c' _ q') (fun z => by rw [z, hn] at q'; cases q')]
              exact q'
    refine ⟨.ref a, Hf, J, rfl, q a Hf fa (fun b o e => ?_) fA⟩
    rw [fO b (ne_of_none e fa) (ne_of_none e fk)]
    exact sn _ _ e
end

/-! ### a lambda with one parameter -/
/-- 1: local, 2: cell, 3: free, 4: the module's -/
def kd (sc : Scope) (x : Str) : Nat := match sc.names.lookup x with
  | some .local => 1
  | some .cell => 2
  | some .free => 3
  | some .globalImplicit => 4
  | _ => 0
theorem kd_vis {sc : Scope} {x : Str} (h : kd sc x = 1 ∨ kd sc x = 2 ∨ kd sc x = 3) : Vis sc x := by
  unfold kd at h
  unfold Vis
  split at h <;> simp_all
section
open LamX
/-- the scope of such a lambda: its parameter, names of the maker, globals -/
structure LamS1 (sc scope : Scope) (p : Str) : Prop where
  fk : scope.kind = .function
  c1 : scope.isCoroutine = false
  g1 : scope.isGenerator = false
  par : scope.names.lookup p = some .local
  own : ∀ y ∈ scope.names, y.2 ≠ .cell ∧ (y.2 = .local → y.1 = p)
  fr : ∀ n, (n, NameKind.free) ∈ scope.names → kd sc n = 2 ∨ kd sc n = 3
def lamS1B (sc scope : Scope) (p : Str) : Bool :=
  decide (scope.kind = .function) && (!scope.isCoroutine && (!scope.isGenerator && (decide (scope.names.lookup p = some .local) && scope.names.all fun y => !decide (y.2 = .cell) && ((!decide (y.2 = .local) || decide (y.1 = p)) && (!decide (y.2 = .free) || (kd sc y.1 == 2 || kd sc y.1 == 3))))))
theorem lamS1_by {sc scope : Scope} {p : Str} (h : lamS1B sc scope p = true) : LamS1 sc scope p := by
  unfold lamS1B at h
  repeat rw [Bool.and_eq_true] at h
  rw [List.all_eq_true] at h
  obtain ⟨h1, h2, h3, h4, h5⟩ := h
  have each : ∀ y ∈ scope.names, y.2 ≠ .cell ∧ (y.2 = .local → y.1 = p) ∧ (y.2 = .free → kd sc y.1 = 2 ∨ kd sc y.1 = 3) := fun y hy => by
    have := h5 y hy
    simp at this
    refine ⟨this.1, fun e => this.2.1.resolve_left (fun z => z e), fun e => ?_⟩
    exact this.2.2.resolve_left fun z => z e
  exact ⟨of_decide_eq_true h1, by simpa using h2, by simpa using h3, of_decide_eq_true h4, fun y hy => ⟨(each y hy).1, (each y hy).2.1⟩, fun n hn => (each _ hn).2.2 rfl⟩
/-- the closure's cells are the maker's -/
theorem clo_eq {cells : List (Str × Addr)} {names : List (Str × NameKind)} (hf : ∀ n, (n, NameKind.free) ∈ names → ∃ c, cells.lookup n = some c) {n : Str} {c : Addr} (e : (cloFrom cells names []).lookup n = some c) : cells.lookup n = some c := by
  cases cloFrom_mem (PySem.mem_of_lookup e) with
  | inl z => cases z
  | inr z =>
    obtain ⟨d, hd⟩ := hf n z.1
    rw [z.2, hd]
    rfl
theorem clo_there {cells : List (Str × Addr)} {names : List (Str × NameKind)} {n : Str} (h : names.lookup n = some .free) : ∃ c, (cloFrom cells names []).lookup n = some c := mem_lookup (cloFrom_has (PySem.mem_of_lookup h))
/-- the context of such a lambda's body -/
def lamCx1 (X : Cx) (p : Str) (A : Around) (outer : List Env) (s : Shared) (H : Hp) (E : XK) (scope : Scope) (f c' : Addr) : Cx := { lamCxV X A outer s H E scope f c' with N := X.N ++ [p] }
def LamCtx1 (X : Cx) (p : Str) (k : Nat) (E : XK) (Y : Cx) : Prop := ∃ (A : Around) (outer : List Env) (s : Shared) (H : Hp) (scope : Scope) (f c' : Addr), Y = lamCx1 X p A outer s H E scope f c' ∧ Room k (A.deeper (lamEnv X scope s.heap.objs.size f c'))
variable {X : Cx} {pins : List (Addr × Obj)} {σ : L2.St} {H : Hp} {s : Shared}
theorem LamS1.has {scope : Scope} {p : Str} (L : LamS1 X.env.scope scope p) (ok : X.Ok) : ∀ n, (n, NameKind.free) ∈ scope.names → ∃ c, X.env.cells.lookup n = some c := fun n hn => ok.has n (by
  have := L.fr n hn
  unfold kd at this
  show X.env.scope.names.lookup n = _ ∨ X.env.scope.names.lookup n = _
  split at this <;> simp_all)
/-- the body's context at the start -/
theorem lam_start1 {A : Around} {outer : List Env} {E : XK} {scope : Scope} {p : Str} {v : V} {u : Value} {f c' : Addr} {h₁ : Heap} {tk : Nat} (I : Inv X pins σ H s) (L : LamS1 X.env.scope scope p) (np : p ∉ X.N) (rv : RelV v u) (e0 : Env0 X.prog X.w X.K X.mg X.base A outer s H) (hd : A.handled = none)
    (hns : h₁.Ns s.heap.objs.size fun y => ([(p, u)] : List (Str × Value)).reverse.lookup y) (kp : ∀ b o, s.heap.get? b = some o → h₁.get? b = some o) :
    Inv (lamCx1 X p A outer s H E scope f c') [] (σ ++ [some v]) H { s with heap := h₁, toks := tk } := by
  have sub : ∀ {n : Str} {c : Addr}, (cloFrom X.env.cells scope.names []).lookup n = some c → X.env.cells.lookup n = some c := fun e => clo_eq (L.has I.ok) e
  have nocell : ∀ {n : Str}, scope.names.lookup n = some .cell → False := fun e => (L.own _ (PySem.mem_of_lookup e)).1 rfl
  have same : ∀ {c : Addr} {w : Option Value}, s.heap.IsCell c w → h₁.IsCell c w := fun ⟨o, a, b⟩ => ⟨o, kp _ _ a, b⟩
  have ok : (lamCx1 X p A outer s H E scope f c').Ok :=
    { mod := e0.mod, kind := L.fk, glob := rfl, blt := rfl, above := Nat.le_refl _, inj := fun y z c a b => I.ok.inj y z c (sub a) (sub b)
      has := fun n hn => by
        have hn : scope.names.lookup n = some .cell ∨ scope.names.lookup n = some .free := hn
        exact hn.elim (fun z => (nocell z).elim) clo_there
      cab := fun n c z => by cases (show false = true from z)
      hd := fun _ => hd, frames := Around.frames_deeper e0.frames, stk := .inr ⟨rfl, rfl⟩
      exf := (fun b z => nomatch (show b ∈ ([] : List Addr) from z)), bs := e0.bs, bsz := e0.bsz, noex := (fun b o _ z => nomatch (show b ∈ ([] : List Addr) from z)), exfs := (fun b z => nomatch (show b ∈ ([] : List Addr) from z)), funs := e0.funs, frf := e0.frf }
  have loc : ∀ (i : Nat) (n : Str) (w : V), (X.N ++ [p])[i]? = some n → (σ ++ [some v])[i]? = some (some w) → Vis scope n → ∃ u', RelV w u' ∧ Look (lamEnv X scope s.heap.objs.size f c') h₁ (fun y => ([(p, u)] : List (Str × Value)).reverse.lookup y) n u' := fun i n w a b hv => by
    by_cases hi : i < X.N.length
    · rw [List.getElem?_append_left hi] at a
      rw [List.getElem?_append_left (by rw [I.len]; exact hi)] at b
      rcases hv with z | z | z
      · exact absurd (List.mem_of_getElem? a) (by rw [show n = p from (L.own _ (PySem.mem_of_lookup z)).2 rfl]; exact np)
      · exact (nocell z).elim
      · obtain ⟨m, _, look⟩ := I.loc
        obtain ⟨c2, hc2⟩ := clo_there (cells := X.env.cells) z
        have kn := L.fr n (PySem.mem_of_lookup z)
        obtain ⟨u', r, q⟩ := look i n w a b (kd_vis (.inr kn))
        refine ⟨u', r, .inr ⟨.inr z, c2, hc2, ?_⟩⟩
        cases q with
        | inl q =>
          have : X.env.scope.names.lookup n = some .local := q.1
          unfold kd at kn
          rw [this] at kn
          cases kn <;> contradiction
        | inr q =>
          obtain ⟨_, c3, e3, ic⟩ := q
          rw [sub hc2] at e3
          cases e3
          exact same ic
    · have ei : i = X.N.length := by
        have := (List.getElem?_eq_some_iff.mp a).1
        rw [List.length_append, show [p].length = 1 from rfl] at this
        omega
      rw [ei, List.getElem?_append_right (Nat.le_refl _), Nat.sub_self] at a
      rw [ei, List.getElem?_append_right (by rw [I.len]; exact Nat.le_refl _), I.len, Nat.sub_self] at b
      cases a
      cases b
      exact ⟨u, rv, .inl ⟨L.par, by simp⟩⟩
  exact { ok := ok, os := rfl, bare := e0.bare, base := Un.kept kp, loc := ⟨_, hns, loc⟩
          cell := fun n c e => let ⟨w, z⟩ := I.cell n c (sub e); ⟨w, same z⟩
          free := e0.hok.fresh (Nat.le_refl _), freeC := fun n c e => I.freeC n c (sub e), pin := (fun q hq => nomatch (show q ∈ ([] : List (Addr × Obj)) from hq)), hok := e0.hok.kept kp
          len := by
            show (σ ++ [some v]).length = (X.N ++ [p]).length
            rw [List.length_append, List.length_append, I.len]
            rfl }
/-- a call of such a lambda, from a built-in that stands in the maker -/
theorem lam_call1 {A : Around} {f c' : Addr} {pm ctv : Value} {params : Arguments} {body : Expr} {scope : Scope} {p : Str} {k : Nat} {tb : Cx → TE} {v : V} {u : Value} {Q : VK} (I : Inv X pins σ H s) (hA : A.frames = some X.stack) (L : LamS1 X.env.scope scope p) (np : p ∉ X.N)
    (hf : s.heap.get? f = some (PySem.W.kla_obj "<lambda>" (X.env.qual ++ "<lambda>") params body scope (cloFrom X.env.cells scope.names []) pm c' ctv)) (hc : H c' = some (CodeO c' (X.env.qual ++ "<lambda>")))
    (hbind : bindArgs (PySem.W.kla_fn "<lambda>" (X.env.qual ++ "<lambda>") params body scope (cloFrom X.env.cells scope.names []) pm (.ref c') ctv) ⟨[u], []⟩ = pure [(p, u)])
    (hr : Room (k + 1) A) (hbody : ∀ Y E', LamCtx1 X p k E' Y → Y.env.scope = scope → Y.N = X.N ++ [p] → PE Y body (tb Y)) (rv : RelV v u)
    (ht : ∀ Y, LamCtx1 X p k (fun _ _ _ => False) Y → tb Y (σ ++ [some v]) H Q) :
    wpAny (model X.prog X.w) A (call (.ref f) [u]) (EP X pins σ Q) (fun _ _ => False) s := by
  have e := I.env0
  have e0 : Env0 X.prog X.w X.K X.mg X.base A X.stack s H := ⟨hA, e.mod, e.bs, e.bsz, e.funs, e.frf, e.hok, e.bare⟩
  obtain ⟨⟨oc, vs, t, hoc, hdc, hvc⟩, _, _⟩ := I.hok c' _ hc
  have go : codeAny (model X.prog X.w) A (.call (.ref f) ⟨[u], []⟩) (CR (CXV X.prog X.w) X.stack X.prog X.w H s Q (fun _ _ _ => False)) s := by
    refine PySem.W.kla_callFunE hr.depth hf rfl L.c1 L.g1 rfl ⟨c', oc, vs, t, rfl, hoc, hdc, hvc⟩ ?_
    rw [hbind]
    refine wpAny_pure (wpAny_newFunctionEnv (fun y hy => (L.own y hy).1) (fun y hy => by rw [List.mem_singleton.mp hy]; exact L.par) (fun h₁ hns hsb => ⟨I.nolimit.fresh _ hsb, ?_⟩) L.fk)
    show codeAny _ _ (.expr body (lamEnv X scope s.heap.objs.size f c')) _ _
    have keep1 : ∀ b o, s.heap.get? b = some o → h₁.get? b = some o := fun b o e => hsb.extBut b o (Nat.ne_of_lt (Heap.lt_size e)) (Heap.get?_push_of_some _ e)
    have rm : Room k (A.deeper (lamEnv X scope s.heap.objs.size f c')) := hr.deeper _
    have J : Inv (lamCx1 X p A X.stack s H (fun _ _ _ => False) scope f c') [] (σ ++ [some v]) H { s with heap := h₁, toks := s.toks + ([(p, u)] : List (Str × Value)).length } := lam_start1 I L np rv e0 hr.hd hns keep1
    have lc : LamCtx1 X p k (fun _ _ _ => False) (lamCx1 X p A X.stack s H (fun _ _ _ => False) scope f c') := ⟨_, _, _, _, _, _, _, rfl, rm⟩
    refine PySem.W.kla_codeExpr (wpAny_mono ((hbody _ _ lc rfl rfl).run [] _ _ H Q J (ht _ lc)) (fun w s' hq => ?_) fun e s' hq => hq)
    obtain ⟨w', H', J', rv, q'⟩ := hq
    exact ⟨w', H', J'.os, J'.bare, J'.base, J'.hok, rv, q'⟩
  refine wpAny_call (codeAny_mono go fun r s' hq => ?_)
  cases r with
  | error e =>
    have hq : CXV X.prog X.w X.stack H s (fun _ _ _ => False) e s' := hq
    rcases hq with h | h
    · obtain ⟨_, _, _, _, _, _, _, _, _, _, _, _, z⟩ := h
      exact z.2.elim
    · obtain ⟨_, _, _, _, _, _, _, _, _, _, _, _, z⟩ := h
      exact z.2.elim
  | ok fl =>
    cases fl with
    | ret u => exact I.after hq
    | next => exact False.elim hq
    | brk => exact False.elim hq
    | cont => exact False.elim hq
theorem bind1 {nm q : Str} {p : Str} {an : Option Expr} {p2 : Pos} {body : Expr} {scope : Scope} {cl : List (Str × Addr)} {pm cd ct v : Value} :
    bindArgs (PySem.W.kla_fn nm q ⟨[], [⟨p, an, p2⟩], none, [], [], none, []⟩ body scope cl pm cd ct) ⟨[v], []⟩ = pure [(p, v)] := by
  unfold bindArgs
  have e : List.lookup p [(p, v)] = some v := by simp
  simp [seqItems?]
  try rfl
/-- sorted(e, key=lambda p: ..), behind the list x -/
def SortK (X : Cx) (p : Str) (tb : Cx → TE) (σ : L2.St) (Q : VK) (x : V) (H0 : Hp) : Prop := ∃ (l : Addr) (xs : List V) (ks : List PyData) (c P : Addr) (T : List (Addr × Str)) (k : Nat),
  x = .ref l ∧ H0 l = some (.lst xs) ∧ ks.length = xs.length ∧ PySem.W.AllAlike ks ∧ PySem.W.Sortable ks ∧ (∀ d ∈ ks, d.depth ≤ 8) ∧ Makes X c P T ∧ Tabs T H0 ∧ Room (k + 4) X.A ∧
  ∀ H1, ExtN H0 H1 → Tabs T H1 →
    (∀ (j : Nat) (y : V) (d : PyData), xs[j]? = some y → ks[j]? = some d → ∀ H2, SmH H1 H2 → ∀ Y, LamCtx1 X p (k + 1) (fun _ _ _ => False) Y → tb Y (σ ++ [some y]) H2 fun z H3 => SmH H2 H3 ∧ KeyV H3 z d) ∧
    ∀ r H4, H1 r = none → SmH H1 H4 → H4 r = some (.lst (byKey xs ks)) → Q (.ref r) H4
def oneV (R : V → Hp → Prop) : List V → Hp → Prop
  | [x], H => R x H
  | _, _ => False
def tSortK (X : Cx) (p : Str) (ta : TE) (tb : Cx → TE) : TE := fun σ H Q => X.calm = true ∧ X.mg "sorted" = none ∧ ta σ H (SortK X p tb σ Q)
/-- one parameter without a default -/
def onePar : Arguments → Option Str
  | ⟨[], [⟨p, _, _⟩], none, [], [], none, []⟩ => some p
  | _ => none
theorem pe_sortK {e body : Expr} {ta : TE} {tb : Cx → TE} {params : Arguments} {scope : Scope} {p : Str} {pp lpos kpos pos : Pos} (hg : Gl X "sorted") (L : LamS1 X.env.scope scope p) (np : p ∉ X.N) (hp : onePar params = some p) (ha : PE X e ta) (ns : isStar e = false)
    (hbody : ∀ k Y E, LamCtx1 X p k E Y → Y.env.scope = scope → Y.N = X.N ++ [p] → PE Y body (tb Y)) :
    PE X (.Call (.Name "sorted" pp) [e] [⟨some (Str.ofString "key"), .Lambda params body scope lpos, kpos⟩] pos) (tSortK X p ta tb) := by
  obtain ⟨an, p2, rfl⟩ : ∃ an p2, params = ⟨[], [⟨p, an, p2⟩], none, [], [], none, []⟩ := by
    unfold onePar at hp
    split at hp
    · cases hp
      exact ⟨_, _, rfl⟩
    · cases hp
  refine ⟨fun pins s σ H Q I h => ?_⟩
  obtain ⟨hc, hm, h⟩ := h
  have pa : PA X [e] (tCons ta tNil) := pa_cons ha pa_nil (star_hd ns)
  refine wpAny_Call_Name_kw (ld_blt I hg hm (u := .builtin "sorted") (by decide +kernel) ?_ (by decide) (by decide))
  refine PyProof.Rows.callWith_kw (thn (pa.run pos pins s σ H (oneV (SortK X p tb σ Q)) I h) fun us s1 ⟨vs, H0, I0, r0, q⟩ => ?_) (by show backTo pos _ = _; rw [star_hd ns]; rfl) (by rw [star_hd ns]; rfl) (by rfl) (by rfl)
  obtain ⟨x, rfl⟩ : ∃ x, vs = [x] := by
    match vs, q with
    | [x], _ => exact ⟨x, rfl⟩
  have q : SortK X p tb σ Q x H0 := q
  obtain ⟨u, rfl, ru⟩ := vals1 r0
  obtain ⟨l, xs, ks, c, P, T, k, rfl, hl, hlen, hal, hsk, hd, mk, hT, hr, q⟩ := q
  obtain rfl : u = Value.ref l := ru
  refine wpAny_evalAll_cons (wpAny_bind (lam_make2 I0 mk.tb mk.co mk.mem mk.one hT (by rfl) (fun y hy e => ?_) fun f c' pm ctv H1 s' I1 eN T1 hf hfn hfr hco => ?_))
  · obtain ⟨n, kk⟩ := y
    simp only at e
    subst e
    exact L.has I0.ok n hy
  refine wpAny_bind (wpAny_standAt (wpAny_pure (wpAny_evalAll_nil ?_)))
  obtain ⟨q1, q2⟩ := q H1 eN T1
  have hl1 := eN _ _ hl fun _ z => by cases z
  have pinF : ∀ q ∈ (f, PySem.W.kla_obj "<lambda>" (X.env.qual ++ "<lambda>") ⟨[], [⟨p, an, p2⟩], none, [], [], none, []⟩ body scope (cloFrom X.env.cells scope.names []) pm c' ctv) :: pins, s'.heap.get? q.1 = some q.2 ∧ H1 q.1 = none ∧ q.1 ≠ X.env.locals ∧ q.1 ∉ X.fs ∧ ∀ v, q.2.data ≠ .cell v := fun q hq => by
    rcases List.mem_cons.mp hq with rfl | hq
    · refine ⟨hf, hfn, fun z => ?_, fun z => ?_, fun v z => by cases z⟩
      · obtain ⟨m, ⟨ob, es, ep, ho, hd, _⟩, _⟩ := I1.loc
        simp only at z
        rw [← z, hf] at ho
        cases ho
        cases hd
      · rcases I1.ok.stk with e | ⟨e, _⟩
        · rw [e] at hfr
          exact hfr z
        · rw [e] at hfr
          refine hfr ?_
          unfold L2.frs
          rw [List.filterMap_cons]
          split
          · exact z
          · exact List.mem_cons_of_mem _ z
    · exact I1.pin q (List.mem_append_right _ hq)
  have Ip := I1.pins_of pinF
  refine wpAny_mono (sorted_key hc Ip (.of hl1) hlen hal hsk (fun d hd' => ?_) (fun j y d hy hd' pins1 H2 s2 v sub s12 I2 ry => ?_) fun r H4 nr s4 h4 => q2 r H4 nr s4 h4) (fun z s2 hz => ?_) fun _ _ z => z
  · have := hd d hd'
    have := hr.un
    omega
  · have hf2 : s2.heap.get? f = _ := (I2.pin _ (List.mem_append_right _ (sub _ List.mem_cons_self))).1
    have hr2 : Room (k + 1 + 1) X.A.in1.in1 := by
      have : Room (k + 1 + 1 + 1 + 1) X.A := hr
      exact this.in1.in1
    exact lam_call1 (k := k + 1) I2 I2.ok.frames L np hf2 (s12 _ _ hco) bind1 hr2 (fun Y E' lc e1 e2 => hbody _ Y E' lc e1 e2) ry fun Y lc => q1 j y d hy hd' H2 s12 Y lc
  · obtain ⟨w', H', J, rw', q'⟩ := hz
    exact ⟨w', H', J.pins_of fun q hq => J.pin q (List.mem_append_right _ (List.mem_cons_of_mem _ hq)), rw', q'⟩
end
end Vc

namespace Vc
open PySem PySem.Spec PyProof.Rows L2

/-! ### f'..' of parts; first, *rest = a list -/
def tFst (ts : List TE) : TE := fun σ H Q => tJs ts Str.empty σ H fun out H1 => Q (.str out) H1
theorem pj_map {X : Cx} {r : Expr → TE} (h : ∀ e, PE X e (r e)) : ∀ es : List Expr, PJ X es (es.map r)
  | [] => .nil
  | e :: es => .cons (h e) (pj_map h es)
/-- the first item and a new list of the others -/
theorem unp_rest {prog : Program} {w : World} {A : Around} {E : Value → Shared → Prop} {s : Shared} {l : Addr} {items : Array Value} {Q : List Value → Shared → Prop} (hl : s.heap.IsList l items) (hh : A.handled = none) (h1 : 1 ≤ items.size) (szl : items.size ≤ sizeLine)
    (h : ∀ (h2 : Heap) tk, (∀ b o, s.heap.get? b = some o → h2.get? b = some o) → s.heap.get? h2.objs.size = none → Q (items.toList.take 1 ++ [.ref h2.objs.size]) { s with heap := h2.push { cls := .type "list", data := .seq (items.toList.drop 1).toArray }, toks := tk }) :
    wpAny (model prog w) A (unpackItems (.ref l) 2 (some 1)) Q E s := by
  have hlt : l ≠ s.heap.objs.size := by
    obtain ⟨o, ho, _⟩ := hl
    exact Nat.ne_of_lt (Heap.lt_size ho)
  unfold unpackItems notIterableAtAll
  refine wpAny_bind (wpAny_bind (wpAny_specialOf hl.typeIs slot_list_iter.lookup (wpAny_pure ?_)))
  rw [if_neg Bool.false_ne_true]
  refine wpAny_bind (wpAny_holding (wpAny_pyIter_list hl ?_))
  refine wpAny_bind (wpAny_holding (PySem.W.kun_draw hlt 1 0 _ _ ⟨_, Heap.get?_push_size _ rfl, rfl, rfl⟩ (hl.push _) (by omega) fun h₁ it1 sb => ?_))
  have keep1 : ∀ b o, b ≠ s.heap.objs.size → s.heap.get? b = some o → h₁.get? b = some o := fun b o hb e => sb.extBut b o hb (Heap.get?_push_of_some _ e)
  have hl1 : h₁.IsList l items := (hl.push _).extBut sb.extBut hlt
  rw [Nat.zero_add] at it1
  rw [List.drop_zero]
  have tl : (items.toList.take 1).length = 1 := by rw [List.length_take, Array.length_toList]; omega
  rw [tl, if_neg (Nat.lt_irrefl 1)]
  obtain ⟨oi, hoi, _⟩ := id it1
  obtain ⟨ol, hol, _⟩ := id hl1
  refine wpAny_bind (wpAny_holding (PySem.W.kun_collect (s := { s with heap := h₁ }) (T := "list_iterator") (.inr (.inr (.inl rfl))) (Walks.list (A := A.in1) hh s.heap.objs.size l hlt items) (fun j u st => st.1.typeIs) (k := 1) h1 ⟨it1, hl1⟩ (Heap.lt_size hoi) (Heap.lt_size hol) (fun h₂ tk hk => ?_) szl))
  have em : (items.toList.drop 1).length - (2 - 1 - 1) = (items.toList.drop 1).length := by omega
  dsimp only
  rw [if_neg (by omega), em, List.take_length, List.drop_length]
  refine wpAny_bind (wpAny_newList ?_ (by rw [List.length_drop, Array.length_toList]; omega))
  refine wpAny_pure ?_
  rw [List.append_nil]
  have all : ∀ b o, s.heap.get? b = some o → h₂.get? b = some o := fun b o e => hk b o (Nat.ne_of_lt (Heap.lt_size e)) (keep1 b o (Nat.ne_of_lt (Heap.lt_size e)) e)
  refine h h₂ tk all ?_
  cases e : s.heap.get? h₂.objs.size with
  | none => rfl
  | some o => exact absurd (Heap.lt_size (all _ _ e)) (Nat.lt_irrefl _)
/-- first, *rest = a list -/
def gStar (K : PySem.W.Frag) (t1 t2 : TG) : TG := fun v σ H Q => ∃ a x xs, v = .ref a ∧ SqL K H a (x :: xs) ∧ ∀ D, H D = none → t1 x σ (upd H D (.lst xs)) fun σ1 H1 => t2 (.ref D) σ1 H1 Q
theorem pg_star {X : Cx} {e1 e2 : Expr} {p2 pos : Pos} {k : Nat} {t1 t2 : TG} (hc : X.calm = true) (n1 : isStar e1 = false) (h1 : PG X e1 t1) (h2 : PG X e2 t2) : PG X (.Tuple [e1, .Starred e2 p2] k pos) (gStar X.K t1 t2) := by
  refine ⟨fun pins s σ H v u Q I r hw => ?_⟩
  obtain ⟨a, x, xs, e, hq, hw⟩ := hw
  subst e
  cases r
  obtain ⟨its, rv, pl, hz⟩ := I.list hq
  cases rv with
  | cons rx rs =>
  rename_i ux us
  have eE : assignEach [e1, .Starred e2 p2] X.env = [(false, assign e1 X.env), (true, assign e2 X.env)] := by
    cases e1 <;> first | rfl | cases n1
  rw [PyProof.Rows.assign_Tuple, eE]
  refine wpAny_bind (wpAny_standAt ?_)
  unfold unpack
  refine wpAny_bind (wpAny_holding (unp_rest pl.isList (I.ok.hd hc) (by simp) (by simpa [rs.length] using hz) fun h2' tk all none => ?_))
  have I0 : L2.Inv X pins σ H { s with heap := h2', toks := tk } := I.kept (t' := tk) all
  have hD := I0.hok.fresh (Nat.le_refl h2'.objs.size)
  have I1 : L2.Inv X pins σ (upd H h2'.objs.size (.lst xs)) { s with heap := h2'.push { cls := .type "list", data := .seq us.toArray }, toks := tk } :=
    I0.laid (t' := tk) (fun b o q => Heap.get?_push_of_some _ q) (Nat.le_refl _) (show ObjOk X.prog X.w _ _ _ (.lst xs) from ⟨by simp at hz; omega, us, 0, rs, Heap.get?_push_size _ rfl⟩)
  show wpAny (model X.prog X.w) X.A (assignInOrder [assign e1 X.env, assign e2 X.env] [ux, .ref h2'.objs.size]) _ _ _
  refine assignInOrder_cons (thn (h1.run pins _ σ _ _ _ _ I1 rx (hw _ hD)) fun _ s1 ⟨σ1, H1, I2, q1⟩ => ?_)
  exact assignInOrder_cons (thn (h2.run pins _ σ1 _ _ _ _ I2 (show RelV (.ref h2'.objs.size) (.ref h2'.objs.size) from rfl) q1) fun _ s2 ⟨σ2, H2, I3, q2⟩ => assignInOrder_nil ⟨σ2, H2, I3, q2⟩)
end Vc

namespace Vc
open PySem PySem.Spec PyProof.Rows L2

/-! ### names -/
def okName (x : Str) : Bool := !(x == ("__debug__" : Str)) && (!(x == ("__classdict__" : Str)) && !(x == ("__name__" : Str)))
def slotOf (N : List Str) (x : Str) : Option Nat := match N.findIdx (fun y => y == x) with
  | i => match N[i]? with
    | some y => if (y == x) = true then some i else none
    | none => none
theorem slotOf_ok {N : List Str} {x : Str} {i : Nat} (h : slotOf N x = some i) : N[i]? = some x := by
  unfold slotOf at h
  simp only at h
  split at h
  · rename_i y e
    split at h
    · rename_i q
      have z : y = x := beq_iff_eq.mp q
      cases h
      rw [e, z]
    · cases h
  · cases h
theorem kd_loc {sc : Scope} {x : Str} (h : kd sc x = 1 ∨ kd sc x = 2) : L2.Loc sc x := by
  unfold kd at h
  unfold L2.Loc
  split at h <;> simp_all
theorem kd_glo {sc : Scope} {x : Str} (h : kd sc x = 4) : sc.names.lookup x = some .globalImplicit := by
  unfold kd at h
  split at h <;> simp_all
/-- what a context must be for the readings of a text with these names and this scope -/
structure Fits (X : Cx) (N : List Str) (sc : Scope) : Prop where
  n : X.N = N
  s : X.env.scope = sc
  nd : N.Nodup
/-- what a context must be for stores to names of this text; osc: the scope as it is written -/
structure FitsW (X : Cx) (N : List Str) (osc : Scope) : Prop where
  n : X.N = N
  nd : N.Nodup
  loc : ∀ x, L2.Loc osc x → L2.Loc X.env.scope x
  fn : ∀ x, osc.names.lookup x = some .cell → X.fn x = true
  lo : ∀ x, osc.names.lookup x = some .local → X.env.scope.names.lookup x = some .local
def tName (X : Cx) (N : List Str) (sc : Scope) (x : Str) : TE := match okName x with
  | false => tBad
  | true => match kd sc x with
    | 1 | 2 | 3 => (match slotOf N x with
      | some i => tVar i
      | none => tBad)
    | 4 => tGlo X x
    | _ => tBad
theorem PE.bad {X : Cx} {e : Expr} : PE X e tBad := ⟨fun _ _ _ _ _ _ h => h.elim⟩
theorem PT.bad {X : Cx} {e : Expr} : PT X e tBadT := ⟨fun _ _ _ _ _ _ h => h.elim⟩
theorem okName_ok {x : Str} (h : okName x = true) : (x == ("__debug__" : Str)) = false ∧ (x == ("__classdict__" : Str)) = false ∧ x ≠ "__name__" := by
  unfold okName at h
  simp only [Bool.and_eq_true, Bool.not_eq_true'] at h
  exact ⟨h.1, h.2.1, fun e => by rw [e] at h; simp at h⟩
theorem name_ok {X : Cx} {N : List Str} {sc : Scope} (F : Fits X N sc) {x : Str} {pos : Pos} : PE X (.Name x pos) (tName X N sc x) := by
  unfold tName
  split
  · exact PE.bad
  · rename_i h
    obtain ⟨h1, h2, h3⟩ := okName_ok h
    split
    all_goals first
      | (rename_i k
         split
         · rename_i i e
           exact pe_var (by rw [F.n]; exact slotOf_ok e) (by rw [F.s]; exact kd_vis (by omega)) h1 h2
         · exact PE.bad)
      | (rename_i k
         exact pe_glo (by show X.env.scope.names.lookup x = _; rw [F.s]; exact kd_glo k) h1 h3)
      | exact PE.bad

/-! ### expressions -/
def rdA (r : Expr → TE) : List Expr → TA
  | [] => tNil
  | e :: es => tCons (r e) (rdA r es)
def rdO (r : Expr → TE) : Option Expr → TO
  | none => tNoPart
  | some e => tPart (r e)
def rdBool (X : Cx) (r : Expr → TE) : BoolOp → List Expr → TE
  | _, [] => tBad
  | _, [e] => r e
  | .And, e :: es => tAndE X (r e) (rdBool X r .And es)
  | .Or, e :: es => tOrE X (r e) (rdBool X r .Or es)
def rdBoolT (r : Expr → TT) : BoolOp → List Expr → TT
  | _, [] => tBadT
  | _, [e] => r e
  | .And, e :: es => tAnd (r e) (rdBoolT r .And es)
  | .Or, e :: es => tOr (r e) (rdBoolT r .Or es)
def tIfE (b : Bool) (t : TE) : TE := match b with
  | true => t
  | false => tBad
theorem ifE {X : Cx} {e : Expr} {b : Bool} {t : TE} (h : b = true → PE X e t) : PE X e (tIfE b t) := by
  cases b with
  | true => exact h rfl
  | false => exact PE.bad
def tCallG0 (X : Cx) (x : Str) : TE := fun σ H Q => ∃ f, Cal X x f ∧ (∀ id, f ≠ .builtin id) ∧ CV X f [] σ H Q
/-! ### targets -/
/-- (a, b, ..) = a tuple or a list of that length -/
def gUnp (K : PySem.W.Frag) (n : Nat) (t : TGs) : TG := fun v σ H Q => ∃ a xs, v = .ref a ∧ (SqT K H a xs ∨ SqL K H a xs) ∧ xs.length = n ∧ t xs σ H Q
def gBad : TG := fun _ _ _ _ => False
theorem PG.bad {X : Cx} {e : Expr} : PG X e gBad := ⟨fun _ _ _ _ _ _ _ _ _ h => h.elim⟩
def rdGs (r : Expr → TG) : List Expr → TGs
  | [] => gNil
  | e :: es => gCons (r e) (rdGs r es)
theorem each_ns {env : Env} : ∀ {es : List Expr}, noStar es = true → (assignEach es env).length = es.length ∧ (assignEach es env).findIdx? (·.1) = none
  | [], _ => ⟨rfl, rfl⟩
  | e :: es, h => by
    obtain ⟨h1, h2⟩ := noStar_cons h
    obtain ⟨i1, i2⟩ := each_ns (env := env) h2
    have e1 : assignEach (e :: es) env = (false, assign e env) :: assignEach es env := by
      cases e <;> first
        | rfl
        | cases h1
    rw [e1]
    refine ⟨by rw [List.length_cons, i1, List.length_cons], ?_⟩
    rw [List.findIdx?_cons, i2] <;> rfl
theorem each_hd {e : Expr} {es : List Expr} {env : Env} (h : isStar e = false) : (assignEach (e :: es) env).map (·.2) = assign e env :: (assignEach es env).map (·.2) := by
  cases e <;> first
    | rfl
    | cases h
theorem pg_unp {X : Cx} {es : List Expr} {k : Nat} {t : TGs} {pos : Pos} (hc : X.calm = true) (h2 : noStar es = true) (h : PGs X es t) : PG X (.Tuple es k pos) (gUnp X.K es.length t) := by
  obtain ⟨n1, n2⟩ := each_ns (env := X.env) h2
  refine ⟨fun pins s σ H v u Q I r hw => ?_⟩
  obtain ⟨a, xs, e, hq, hl, hw⟩ := hw
  rcases hq with hq | hq
  · exact (pg_tup hc h n1 n2).run pins s σ H v u Q I r ⟨a, xs, e, hq, hl, hw⟩
  · exact (pg_lst hc h n1 n2).run pins s σ H v u Q I r ⟨a, xs, e, hq, hl, hw⟩
def gOf (N : List Str) (sc : Scope) (x : Str) : TG := match kd sc x with
  | 1 | 2 => (match slotOf N x with
    | some i => gName i
    | none => gBad)
  | _ => gBad
theorem gOf_ok {X : Cx} {N : List Str} {sc : Scope} (F : FitsW X N sc) {x : Str} {pos : Pos} : PG X (.Name x pos) (gOf N sc x) := by
  unfold gOf
  split
  all_goals first
    | (rename_i k
       split
       · rename_i i e
         have lc : L2.Loc sc x := kd_loc (by omega)
         refine pg_name (by rw [F.n]; exact F.nd) (by rw [F.n]; exact slotOf_ok e) (F.loc x lc) ?_
         rcases lc with h | h
         · exact .inr (F.lo x h)
         · exact .inl (F.fn _ h)
       · exact PG.bad)
    | exact PG.bad
theorem rdGs_ok {X : Cx} {r : Expr → TG} (h : ∀ e, PG X e (r e)) : ∀ {es : List Expr}, noStar es = true → PGs X es (rdGs r es)
  | [], _ => pgs_nil
  | e :: es, hs => by
    obtain ⟨n1, n2⟩ := noStar_cons hs
    exact pgs_cons (h e) (rdGs_ok h n2) (each_hd n1)
/-- a name, or a tuple of names -/
def gNm1 (N : List Str) (sc : Scope) : Expr → TG
  | .Name x _ => gOf N sc x
  | _ => gBad
def gNm (K : PySem.W.Frag) (N : List Str) (sc : Scope) : Expr → TG
  | .Name x _ => gOf N sc x
  | .Tuple es _ _ => (match noStar es with
    | true => gUnp K es.length (rdGs (gNm1 N sc) es)
    | false => gBad)
  | _ => gBad
theorem gNm_ok {X : Cx} {N : List Str} {sc : Scope} (F : FitsW X N sc) (hc : X.calm = true) : ∀ e, PG X e (gNm X.K N sc e) := fun e => by
  have h1 : ∀ e, PG X e (gNm1 N sc e) := fun e => by
    unfold gNm1
    split
    · exact gOf_ok F
    · exact PG.bad
  unfold gNm
  split
  · exact gOf_ok F
  · split
    · exact pg_unp hc (by assumption) (rdGs_ok h1 (by assumption))
    · exact PG.bad
  · exact PG.bad

/-! ### what a for walks -/
def iRg1 (X : Cx) (ta : TA) : TI := fun σ H R => X.mg "range" = none ∧ iRng1 ta σ H R
def iRg2 (X : Cx) (ta : TA) : TI := fun σ H R => X.mg "range" = none ∧ iRng2 ta σ H R
def iRg3 (X : Cx) (ta : TA) : TI := fun σ H R => X.mg "range" = none ∧ iRng3 ta σ H R
def iBad : TI := fun _ _ _ => False
theorem PI.bad {X : Cx} {tg e : Expr} : PI X tg e iBad := ⟨fun _ _ _ _ _ _ h => h.elim⟩
def iIf (b : Bool) (t : TI) : TI := match b with
  | true => t
  | false => iBad
theorem ifI {X : Cx} {tg e : Expr} {b : Bool} {t : TI} (h : b = true → PI X tg e t) : PI X tg e (iIf b t) := by
  cases b with
  | true => exact h rfl
  | false => exact PI.bad
/-- a call by name, without keywords: the name, the arguments -/
def callOf : Expr → Option (Str × List Expr)
  | .Call (.Name x _) as [] _ => some (x, as)
  | _ => none
theorem callOf_ok {e : Expr} {x : Str} {as : List Expr} (h : callOf e = some (x, as)) : ∃ p pos, e = .Call (.Name x p) as [] pos := by
  unfold callOf at h
  split at h
  · rename_i y p bs pos
    obtain ⟨rfl, rfl⟩ := Prod.mk.inj (Option.some.inj h)
    exact ⟨p, pos, rfl⟩
  · cases h
def rdI (X : Cx) (sc : Scope) (r : Expr → TE) (tg e : Expr) : TI := match callOf e with
  | some (x, as) => (match decide (x = "range") with
    | true => (match as with
      | [a] => iIf (kd sc "range" == 4 && noStar [a]) (iRg1 X (rdA r [a]))
      | [a, b] => iIf (kd sc "range" == 4 && noStar [a, b]) (iRg2 X (rdA r [a, b]))
      | [a, b, c] => iIf (kd sc "range" == 4 && noStar [a, b, c]) (iRg3 X (rdA r [a, b, c]))
      | _ => iBad)
    | false => (match decide (x = "enumerate") with
      | true => (match as with
        | [a] => iIf (isTup tg && (kd sc "enumerate" == 4 && noStar [a])) (iEnu X (rdA r [a]))
        | _ => iBad)
      | false => iAny X (r e)))
  | none => iAny X (r e)
theorem rdA_ok {X : Cx} {r : Expr → TE} (h : ∀ e, PE X e (r e)) : ∀ {es : List Expr}, noStar es = true → PA X es (rdA r es)
  | [], _ => pa_nil
  | e :: es, hs => by
    obtain ⟨n1, n2⟩ := noStar_cons hs
    exact pa_cons (h e) (rdA_ok h n2) (star_hd n1)
section
variable {X : Cx} {N : List Str} {sc : Scope}
theorem gl_of (F : Fits X N sc) {x : Str} (h : kd sc x = 4) : Gl X x := by
  show X.env.scope.names.lookup x = _
  rw [F.s]
  exact kd_glo h
theorem rdI_ok (F : Fits X N sc) {r : Expr → TE} (hr : ∀ e, PE X e (r e)) {tg e : Expr} : PI X tg e (rdI X sc r tg e) := by
  unfold rdI
  split
  · rename_i x as h
    obtain ⟨p, pos, rfl⟩ := callOf_ok h
    split
    · rename_i hx
      obtain rfl := of_decide_eq_true hx
      split
      · refine ifI fun h => ?_
        simp only [Bool.and_eq_true, beq_iff_eq] at h
        refine ⟨fun pins s σ H R I hw => ?_⟩
        obtain ⟨n1, _⟩ := noStar_cons h.2
        exact (pi_range1 (gl_of F h.1) hw.1 (rdA_ok hr h.2) (star_hd n1)).run pins s σ H R I hw.2
      · refine ifI fun h => ?_
        simp only [Bool.and_eq_true, beq_iff_eq] at h
        refine ⟨fun pins s σ H R I hw => ?_⟩
        obtain ⟨n1, n2⟩ := noStar_cons h.2
        obtain ⟨n3, _⟩ := noStar_cons n2
        have e2 := star_hd (env := X.env) (es := []) n3
        exact (pi_range2 (gl_of F h.1) hw.1 (rdA_ok hr h.2) (by rw [star_hd n1, e2] <;> rfl) e2).run pins s σ H R I hw.2
      · refine ifI fun h => ?_
        simp only [Bool.and_eq_true, beq_iff_eq] at h
        refine ⟨fun pins s σ H R I hw => ?_⟩
        obtain ⟨n1, n2⟩ := noStar_cons h.2
        exact (pi_range3 (gl_of F h.1) hw.1 (rdA_ok hr h.2) (star_hd n1) (star_any n2)).run pins s σ H R I hw.2
      · exact PI.bad
    · split
      · rename_i hx
        obtain rfl := of_decide_eq_true hx
        split
        · refine ifI fun h => ?_
          simp only [Bool.and_eq_true, beq_iff_eq] at h
          obtain ⟨h1, h2, h3⟩ := h
          obtain ⟨n1, _⟩ := noStar_cons h3
          cases tg with
          | Tuple es k q => exact pi_enu (gl_of F h2) (rdA_ok hr h3) (star_hd n1)
          | _ => cases h1
        · exact PI.bad
      · exact pi_any (hr _)
  · exact pi_any (hr _)
end

/-! ### displays with stars, dicts, comprehensions, calls of names -/
def rdAS (X : Cx) (r : Expr → TE) : List Expr → TA
  | [] => tNil
  | .Starred e _ :: es => StX.tStar X.K (r e) (rdAS X r es)
  | e :: es => tCons (r e) (rdAS X r es)
theorem rdAS_ok {X : Cx} {r : Expr → TE} (h : ∀ e, PE X e (r e)) : ∀ {es : List Expr}, PA X es (rdAS X r es)
  | [] => pa_nil
  | e :: es => by
    unfold rdAS
    split
    · rename_i q; cases q
    · rename_i q
      obtain ⟨rfl, rfl⟩ := List.cons.inj q
      exact StX.pa_star (h _) (rdAS_ok h)
    · rename_i hne q
      obtain ⟨rfl, rfl⟩ := List.cons.inj q
      refine pa_cons (h _) (rdAS_ok h) (star_hd ?_)
      cases e <;> first
        | rfl
        | exact (hne _ _ rfl).elim
def rdPairs (r : Expr → TE) : List (Option Expr) → List Expr → List (TE × TE)
  | some k :: ks, v :: vs => (r k, r v) :: rdPairs r ks vs
  | _, _ => []
def tDNew : TE := fun σ H Q => tDNewK σ H Q ∨ tDNewT σ H Q
def dOk : List (Option Expr) → List Expr → Bool
  | [], [] => true
  | some _ :: ks, _ :: vs => dOk ks vs
  | _, _ => false
theorem rdPairs_ok {X : Cx} {pos : Pos} {r : Expr → TE} (h : ∀ e, PE X e (r e)) : ∀ {ks : List (Option Expr)} {vs : List Expr}, dOk ks vs = true → PPs X pos ks vs (rdPairs r ks vs) ∧ ks.all (·.isSome) = true ∧ ks.length = vs.length
  | [], [], _ => ⟨pps_nil, rfl, rfl⟩
  | some k :: ks, v :: vs, e => by
    obtain ⟨a, b, c⟩ := rdPairs_ok (X := X) (pos := pos) h (ks := ks) (vs := vs) e
    exact ⟨pps_cons (h k) (h v) a, by rw [List.all_cons, b]; rfl, by rw [List.length_cons, List.length_cons, c]⟩
  | [], _ :: _, e => by cases e
  | none :: _, [], e => by cases e
  | none :: _, _ :: _, e => by cases e
  | some _ :: _, [], e => by cases e
/-- x[::-1], a list or a text -/
def tRevA (K : PySem.W.Frag) (te : TE) : TE := fun σ H Q => te σ H fun x H1 => (∃ a xs, x = .ref a ∧ SqL K H1 a xs ∧ ∀ p, H1 p = none → Q (.ref p) (upd H1 p (.lst xs.reverse))) ∨ ∃ z : Str, x = .str z ∧ z.length ≤ sizeLine ∧ Q (.str ⟨z.cps.toList.reverse.toArray⟩) H1
theorem rev_ix (n : Nat) : Builtin.Str.strSliceIndices none none (-1) n = (List.range n).reverse := by
  unfold Builtin.Str.strSliceIndices
  simp only [if_neg (by decide : ¬ ((-1 : Int) > 0))]
  rw [PySem.W.krv_sliceRange, PySem.W.krv_range]
theorem pe_revA {X : Cx} {e : Expr} {te : TE} {k : Nat} {p1 p2 p3 pos : Pos} (he : PE X e te) : PE X (.Subscript e (.Slice none none (some (.UnaryOp .USub (.Constant (.int 1) k p1) p2)) p3) pos) (tRevA X.K te) := by
  refine ⟨fun pins s σ H Q I h => ?_⟩
  refine Subscript_ (thn (he.run pins s σ H _ I h) fun v s1 ⟨x, H1, I1, r1, q1⟩ => ?_)
  have hst : PO X (some (.UnaryOp .USub (.Constant (.int 1) k p1) p2)) (tPart (tUn (rU fun i => .int (-i)) (tC (.int 1)))) := po_some (pe_un un_neg pe_int)
  refine wpAny_Slice (thn (po_none.run pins s1 σ H1 (fun o H2 => o = none ∧ H2 = H1) I1 ⟨rfl, rfl⟩) fun vl s2 ⟨l, H2, I2, pl, el, e2⟩ => ?_)
  subst el e2
  refine thn (po_none.run pins s2 σ H2 (fun o H3 => o = none ∧ H3 = H2) I2 ⟨rfl, rfl⟩) fun vu s3 ⟨u, H3, I3, pu, eu, e3⟩ => ?_
  subst eu e3
  refine thn (hst.run pins s3 σ H3 (fun o H4 => o = some (-1) ∧ H4 = H3) I3 ⟨1, rfl, -1, rfl, rfl, rfl⟩) fun vs s4 ⟨o, H4, I4, ps, eo, e4⟩ => ?_
  subst eo e4
  have I5 : Inv X pins σ H4 { s4 with heap := s4.heap.push { cls := .type "slice", data := .fields #[vl, vu, vs] } } := I4.kept (t' := s4.toks) fun b ob q => Heap.get?_push_of_some _ q
  rcases q1 with ⟨a, xs, ex, hx, q⟩ | ⟨z, ex, hz, q⟩
  · subst ex
    cases r1
    obtain ⟨its, r, ht, hz⟩ := I5.list hx
    have hlen := r.length
    show wpAny (model X.prog X.w) X.A (subscriptTail e (.Slice none none (some (.UnaryOp .USub (.Constant (.int 1) k p1) p2)) p3) (.ref a) (.ref s4.heap.objs.size)) (EP X pins σ Q) X.xe { s4 with heap := s4.heap.push { cls := .type "slice", data := .fields #[vl, vu, vs] } }
    refine tail_any (ops := [.ref a, .ref s4.heap.objs.size]) ht.isList.typeIs (PySem.slot_list_getitem.lookup) ?_ (by with_unfolding_all rfl)
    refine wpAny_getItem_list_slice ht.isList (Heap.IsSliceOf.new _ vl vu vs) pl pu ps (by decide) ?_ (by rw [List.size_toArray]; omega)
    rw [PySem.W.krv_pick]
    refine ⟨.ref _, _, I5.laid (t' := s4.toks) (o := .lst xs.reverse) (fun b ob q => Heap.get?_push_of_some _ q) (Nat.le_refl _) ?_, rfl, q _ (I5.hok.fresh (Nat.le_refl _))⟩
    exact ⟨by rw [List.length_reverse]; exact hz, _, 0, r.reverse, Heap.get?_push_size _ rfl⟩
  · subst ex
    obtain ⟨t, rfl⟩ := r1
    obtain rfl : vl = .none := by cases pl; rfl
    obtain rfl : vu = .none := by cases pu; rfl
    obtain ⟨tk, rfl⟩ : ∃ tk, vs = .int (-1) tk := by cases ps; exact ⟨_, rfl⟩
    show wpAny (model X.prog X.w) X.A (subscriptTail e (.Slice none none (some (.UnaryOp .USub (.Constant (.int 1) k p1) p2)) p3) (.str z t) (.ref s4.heap.objs.size)) (EP X pins σ Q) X.xe _
    refine tail_any (ops := [.str z t, .ref s4.heap.objs.size]) (typeIs_str _ z t) (F.slot_str_getitem.lookup) ?_ (by with_unfolding_all rfl)
    refine wpAny_getItem_str_slice (l := none) (u := none) (st := some (-1, tk)) ⟨_, Heap.get?_push_size _ rfl, rfl, rfl⟩ rfl ?_
    unfold sliceMade
    rw [if_neg (by
      show ¬ (((-1 : Int) == 1) && _) = true
      rw [show ((-1 : Int) == 1) = false from rfl, Bool.false_and]
      decide)]
    have ep : slicePicked z none none (some (-1, tk)) = (List.range z.length).reverse := rev_ix z.length
    have ea : List.filterMap (fun x => z.cps[x]?) (List.range z.length) = z.cps.toList := PySem.W.krv_all z.cps
    rw [ep, List.filterMap_reverse, ea]
    refine ⟨?_, .str _, H4, I5.tok _, ⟨_, rfl⟩, q⟩
    show (z.cps.toList.reverse.toArray).size ≤ sizeLine
    rw [List.size_toArray, List.length_reverse, Array.length_toList]
    exact hz
/-- every second item -/
def evry {α : Type} : List α → List α
  | [] => []
  | [x] => [x]
  | x :: _ :: r => x :: evry r
theorem evry_at {α : Type} : ∀ (l : List α) (i : Nat), (evry l)[i]? = l[2 * i]?
  | [], i => by simp [evry]
  | [x], 0 => rfl
  | [x], i + 1 => by simp [evry]
  | x :: y :: r, 0 => rfl
  | x :: y :: r, i + 1 => by
    show (evry r)[i]? = _
    rw [evry_at r i]
    rw [show 2 * (i + 1) = 2 * i + 1 + 1 from by omega]
    rfl
theorem evry_len {α : Type} : ∀ (l : List α), (evry l).length = (l.length + 1) / 2
  | [] => by simp [evry]
  | [x] => by simp [evry]
  | x :: y :: r => by
    show (evry r).length + 1 = _
    rw [evry_len r, List.length_cons, List.length_cons]
    omega
theorem sr2 (m n : Nat) : sliceRange (m : Int) (n : Int) 2 = (List.range ((n - m + 1) / 2)).map fun k => m + 2 * k := by
  have c : ((if (2 : Int) > 0 then (if (m : Int) < n then ((n : Int) - m + 2 - 1) / 2 else 0) else (if (m : Int) > n then ((m : Int) - n - 2 - 1) / (-2) else 0)) : Int).toNat = (n - m + 1) / 2 := by
    rw [if_pos (by decide)]
    split <;> omega
  show (List.range (Int.toNat _)).map _ = _
  rw [c]
  apply List.map_congr_left
  intro k _
  omega
theorem fm_all {α : Type} (f : Nat → Option α) : ∀ n, (∀ k, k < n → ∃ y, f k = some y) → ((List.range n).filterMap f).length = n ∧ ∀ i, i < n → ((List.range n).filterMap f)[i]? = f i
  | 0, _ => ⟨rfl, fun i h => absurd h (Nat.not_lt_zero i)⟩
  | n + 1, h => by
    obtain ⟨a, b⟩ := fm_all f n fun k hk => h k (Nat.lt_succ_of_lt hk)
    obtain ⟨y, hy⟩ := h n (Nat.lt_succ_self n)
    have e : (List.range (n + 1)).filterMap f = (List.range n).filterMap f ++ [y] := by
      rw [List.range_succ, List.filterMap_append, List.filterMap_cons_some hy]
      rfl
    rw [e]
    refine ⟨by rw [List.length_append, a]; rfl, fun i hi => ?_⟩
    by_cases q : i < n
    · rw [List.getElem?_append_left (by omega)]
      exact b i q
    · have : i = n := by omega
      subst this
      rw [List.getElem?_append_right (by omega), a, Nat.sub_self, hy]
      rfl
theorem evry_pick (items : Array Value) (j : Nat) : slicePick items (some (j : Int)) none (some 2) = (evry (items.toList.drop j)).toArray := by
  have hb : sliceBounds (some (j : Int)) none (some 2) items.size = (((min j items.size : Nat) : Int), (items.size : Int), 2) := by
    show ((if (2 : Int) > 0 then max 0 (min (if (j : Int) < 0 then (j : Int) + items.size else (j : Int)) items.size) else _), (if (2 : Int) > 0 then (items.size : Int) else -1), (2 : Int)) = _
    have e1 : (if (j : Int) < 0 then (j : Int) + items.size else (j : Int)) = j := if_neg (by omega)
    rw [e1, if_pos (by decide), if_pos (by decide)]
    have e2 : max 0 (min (j : Int) items.size) = ((min j items.size : Nat) : Int) := by omega
    rw [e2]
  unfold slicePick
  rw [hb]
  show ((sliceRange ((min j items.size : Nat) : Int) (items.size : Int) 2).filterMap (items[·]?)).toArray = _
  rw [sr2, List.filterMap_map]
  congr 1
  have hn : ∀ k, k < (items.size - min j items.size + 1) / 2 → ∃ y, ((items[·]?) ∘ fun k => min j items.size + 2 * k) k = some y := fun k hk => ⟨_, Array.getElem?_eq_getElem (by show min j items.size + 2 * k < items.size; omega)⟩
  obtain ⟨a, b⟩ := fm_all _ _ hn
  apply List.ext_getElem?
  intro i
  rw [evry_at, List.getElem?_drop]
  by_cases q : i < (items.size - min j items.size + 1) / 2
  · rw [b i q]
    show items[min j items.size + 2 * i]? = _
    rw [Array.getElem?_toList, show min j items.size = j from by omega]
  · rw [List.getElem?_eq_none (by omega), List.getElem?_eq_none (by rw [Array.length_toList]; omega)]
/-- x[i::2] of a list -/
def tEvr (K : PySem.W.Frag) (te : TE) (ti : TO) : TE := fun σ H Q => te σ H fun x H1 => ti σ H1 fun o H2 => ∃ a xs, ∃ j : Nat, x = .ref a ∧ o = some (j : Int) ∧ SqL K H2 a xs ∧ ∀ p, H2 p = none → Q (.ref p) (upd H2 p (.lst (evry (xs.drop j))))
theorem Vals_evry : ∀ {xs : List V} {us : List Value}, Vals xs us → Vals (evry xs) (evry us)
  | _, _, .nil => .nil
  | _, _, .cons a .nil => .cons a .nil
  | _, _, .cons a (.cons b r) => .cons a (Vals_evry r)
theorem Vals_drop : ∀ {xs : List V} {us : List Value} (j : Nat), Vals xs us → Vals (xs.drop j) (us.drop j)
  | _, _, 0, r => r
  | _, _, _ + 1, .nil => .nil
  | _, _, j + 1, .cons _ r => Vals_drop j r
theorem pe_evr {X : Cx} {e lo : Expr} {te : TE} {ti : TO} {k : Nat} {p1 p3 pos : Pos} (he : PE X e te) (hl : PO X (some lo) ti) : PE X (.Subscript e (.Slice (some lo) none (some (.Constant (.int 2) k p1)) p3) pos) (tEvr X.K te ti) := by
  refine ⟨fun pins s σ H Q I h => ?_⟩
  refine Subscript_ (thn (he.run pins s σ H _ I h) fun v s1 ⟨x, H1, I1, r1, q1⟩ => ?_)
  refine wpAny_Slice (thn (hl.run pins s1 σ H1 _ I1 q1) fun vl s2 ⟨l, H2, I2, pl, a, xs, j, ex, el, q2⟩ => ?_)
  subst el
  refine thn (po_none.run pins s2 σ H2 (fun o H3 => o = none ∧ H3 = H2) I2 ⟨rfl, rfl⟩) fun vu s3 ⟨u, H3, I3, pu, eu, e3⟩ => ?_
  subst eu e3
  have hst : PO X (some (.Constant (.int 2) k p1)) (tPart (tC (.int 2))) := po_some pe_int
  refine thn (hst.run pins s3 σ H3 (fun o H4 => o = some 2 ∧ H4 = H3) I3 ⟨2, rfl, rfl, rfl⟩) fun vs s4 ⟨o, H4, I4, ps, eo, e4⟩ => ?_
  subst eo e4
  obtain ⟨hx, q⟩ := q2
  subst ex
  cases r1
  have I5 : Inv X pins σ H4 { s4 with heap := s4.heap.push { cls := .type "slice", data := .fields #[vl, vu, vs] } } := I4.kept (t' := s4.toks) fun b ob q => Heap.get?_push_of_some _ q
  obtain ⟨its, r, ht, hz⟩ := I5.list hx
  have hlen := r.length
  show wpAny (model X.prog X.w) X.A (subscriptTail e (.Slice (some lo) none (some (.Constant (.int 2) k p1)) p3) (.ref a) (.ref s4.heap.objs.size)) (EP X pins σ Q) X.xe { s4 with heap := s4.heap.push { cls := .type "slice", data := .fields #[vl, vu, vs] } }
  refine tail_any (ops := [.ref a, .ref s4.heap.objs.size]) ht.isList.typeIs (PySem.slot_list_getitem.lookup) ?_ (by with_unfolding_all rfl)
  refine wpAny_getItem_list_slice ht.isList (Heap.IsSliceOf.new _ vl vu vs) pl pu ps (by decide) ?_ (by rw [List.size_toArray]; omega)
  rw [evry_pick]
  refine ⟨.ref _, _, I5.laid (t' := s4.toks) (o := .lst (evry (xs.drop j))) (fun b ob q => Heap.get?_push_of_some _ q) (Nat.le_refl _) ?_, rfl, q _ (I5.hok.fresh (Nat.le_refl _))⟩
  exact ⟨by rw [evry_len, List.length_drop]; omega, _, 0, Vals_evry (Vals_drop j r), Heap.get?_push_size _ rfl⟩
def Blk (X : Cx) (Y : Cx) : Prop := ∃ (scope : Scope) (s : Shared) (H : Hp) (C : Addr) (cl : List (Str × Addr)) (fp : List Addr), Y = X.blk s H scope (compEnvC scope cl C X.env) fp
def tBlk (X : Cx) (f : Cx → TE) : TE := fun σ H Q => ∀ Y, Blk X Y → f Y σ H Q
def tBlkT (X : Cx) (f : Cx → TT) : TT := fun σ H Q => ∀ Y, Blk X Y → f Y σ H Q
def iBlk (X : Cx) (f : Cx → TI) : TI := fun σ H Q => ∀ Y, Blk X Y → f Y σ H Q
def ownOf (N : List Str) : List (Str × NameKind) → List (Str × Nat)
  | [] => []
  | (x, k) :: r => (match k, slotOf N x with
    | .local, some i => (x, i) :: ownOf N r
    | .cell, some i => (x, i) :: ownOf N r
    | _, _ => ownOf N r)
def isSetE : Expr → Bool
  | .Set .. => true
  | _ => false
def rdIfs (r : Expr → TT) : List Expr → TT
  | [] => tYes
  | [c] => r c
  | _ => tBadT
def okIfs : List Expr → Bool
  | [] => true
  | [_] => true
  | _ => false
def tLcC (X : Cx) (wi : TI) (g : TG) (tt : TT) (te : TE) (vs : List Nat) : TE := fun σ H Q => X.calm = true ∧ (tLc wi g tt te vs σ H Q ∨ tLockE (tLc wi g tt te vs) σ H Q)
def tLc2C (X : Cx) (wi : TI) (g : TG) (tt : TT) (wi1 : TI) (g1 : TG) (tt1 : TT) (te : TE) (vs vs1 : List Nat) : TE := fun σ H Q => X.calm = true ∧ tLc2 wi g tt wi1 g1 tt1 te vs vs1 σ H Q
def tDcC (X : Cx) (wi : TI) (g : TG) (tt : TT) (tk tv : TE) (vs : List Nat) : TE := fun σ H Q => X.calm = true ∧ tDc wi g tt tk tv vs σ H Q
/-- a call of a def, by its code -/
def CodeV (X : Cx) (f : Value) (xs : List V) : TE := fun σ H Q =>
  ∀ (pins : List (Addr × Obj)) (s : Shared) (us : List Value), Inv X pins σ H s → Vals xs us → codeAny (model X.prog X.w) X.A (.call f ⟨us, []⟩) (fun r s' => match r with | .ok (.ret v) => EP X pins σ Q v s' | .ok _ => False | .error e => X.xe e s') s
def tCallL (X : Cx) (i : Nat) (ta : TA) : TE := fun σ H Q => ∃ f, σ[i]? = some (some (.ref f)) ∧ ((PySem.W.keepIn X.K (.ref f) = true ∧ ta σ H fun vs H1 => CV X (.ref f) vs σ H1 Q) ∨
  ∃ C g, StX.CallO X.K C g ∧ ta σ H fun vs H1 => StX.InsC X H1 f C ∧ CodeV X (.ref g) (.ref f :: vs) σ H1 Q)
theorem pe_callLv {X : Cx} {i : Nat} {x : Str} {p pos : Pos} {e : Expr} {es : List Expr} {t : TA} (hN : X.N[i]? = some x) (hv : Vis X.env.scope x) (ha : PA X (e :: es) t) (hdb : (x == ("__debug__" : Str)) = false) (hcd : (x == ("__classdict__" : Str)) = false)
    (he : starEach (e :: es) X.env = (false, eval e X.env) :: starEach es X.env) (hpl : (backTo pos (starEach es X.env)).any (·.1) = false) : PE X (.Call (.Name x p) (e :: es) [] pos) (tCallL X i t) := by
  refine ⟨fun pins s σ H Q I h => ?_⟩
  obtain ⟨f, hs, h⟩ := h
  refine wpAny_Call_Name_kw (thn ((pe_var (pos := p) hN hv hdb hcd).run pins s σ H (fun v H1 => v = .ref f ∧ H1 = H) I ⟨.ref f, hs, rfl, rfl⟩) fun u s1 ⟨v, H1, I1, r1, q1⟩ => ?_)
  obtain ⟨rfl, rfl⟩ := q1
  cases r1
  rcases h with ⟨hk, ht⟩ | ⟨C, g, hc, ht⟩
  · exact PySem.W.callWith_K (h₀ := X.base) I.ok.mod.kin hk (thn (ha.run pos pins s1 σ _ _ I1 ht) fun us s2 ⟨vs, H2, I2, r, q⟩ => ⟨I2.kIn, q pins s2 us I2 r⟩) he hpl
  · refine StX.callO_with (thn (ha.run pos pins s1 σ _ _ I1 ht) fun us s2 ⟨vs, H2, I2, r, hi, q⟩ => ?_) he hpl
    obtain ⟨ox, od, J, hd⟩ := StX.insC_at I2 hi
    refine ⟨⟨C, ox, od, J, hd⟩, ?_⟩
    have z := q pins s2 (.ref f :: us) I2 (.cons (show RelV (.ref f) (.ref f) from rfl) r)
    exact wpAny_call (PySem.W.kco_code I2.kIn J hd hc.at_ hc.fn hc.fi z)
/-- f(..)(..) -/
def tCallE (X : Cx) (tf : TE) (ta : TA) : TE := fun σ H Q => tf σ H fun x H0 => ∃ f, x = .ref f ∧ ((PySem.W.keepIn X.K (.ref f) = true ∧ ta σ H0 fun vs H1 => CV X (.ref f) vs σ H1 Q) ∨
  ∃ C g, StX.CallO X.K C g ∧ ta σ H0 fun vs H1 => StX.InsC X H1 f C ∧ CodeV X (.ref g) (.ref f :: vs) σ H1 Q)
theorem pe_callE {X : Cx} {fe : Expr} {tf : TE} {pos : Pos} {e : Expr} {es : List Expr} {t : TA} (hf : PE X fe tf) (hc : isCall fe = true) (ha : PA X (e :: es) t)
    (he : starEach (e :: es) X.env = (false, eval e X.env) :: starEach es X.env) (hpl : (backTo pos (starEach es X.env)).any (·.1) = false) : PE X (.Call fe (e :: es) [] pos) (tCallE X tf t) := by
  refine ⟨fun pins s σ H Q I h => ?_⟩
  refine PyProof.Rows.Call_ (thn (hf.run pins s σ H _ I h) fun u s1 ⟨v, H1, I1, r1, f, ev, h⟩ => ?_) (by cases fe <;> first | rfl | cases hc)
  subst ev
  cases r1
  rcases h with ⟨hk, ht⟩ | ⟨C, g, hc, ht⟩
  · exact PySem.W.callWith_K (h₀ := X.base) I.ok.mod.kin hk (thn (ha.run pos pins s1 σ _ _ I1 ht) fun us s2 ⟨vs, H2, I2, r, q⟩ => ⟨I2.kIn, q pins s2 us I2 r⟩) he hpl
  · refine StX.callO_with (thn (ha.run pos pins s1 σ _ _ I1 ht) fun us s2 ⟨vs, H2, I2, r, hi, q⟩ => ?_) he hpl
    obtain ⟨ox, od, J, hd⟩ := StX.insC_at I2 hi
    refine ⟨⟨C, ox, od, J, hd⟩, ?_⟩
    have z := q pins s2 (.ref f :: us) I2 (.cons (show RelV (.ref f) (.ref f) from rfl) r)
    exact wpAny_call (PySem.W.kco_code I2.kIn J hd hc.at_ hc.fn hc.fi z)
def sub1 (own : List (Str × Nat)) (e : Expr) : List Nat := match e with
  | .Name x _ => (own.filter fun p => p.1 == x).map (·.2)
  | .Tuple es _ _ => (own.filter fun p => es.any fun e => match e with | .Name x _ => p.1 == x | _ => false).map (·.2)
  | _ => []
mutual
def rdE : Cx → List Str → Scope → Nat → Expr → TE
  | _, _, _, 0, _ => tBad
  | X, N, sc, n + 1, e => match e with
    | .Constant (.int i) _ _ => tC (.int i)
    | .Constant (.bool b) _ _ => tC (.bl b)
    | .Constant .none _ _ => tC .non
    | .Constant (.str x) _ _ => tC (.str x)
    | .Name x _ => tName X N sc x
    | .BinOp a op b _ => tBin X (binaryOp op) (rdE X N sc n a) (rdE X N sc n b)
    | .UnaryOp op a _ => tUny X (unaryOp op) (rdE X N sc n a)
    | .BoolOp op vs _ => rdBool X (rdE X N sc n) op vs
    | .IfExp c a b _ => tIf (rdT X N sc n c) (rdE X N sc n a) (rdE X N sc n b)
    | .Compare a [op] [b] _ => tIfE (!behindInMarks op b) (tBin X (compareOp op) (rdE X N sc n a) (rdE X N sc n b))
    | .Compare a [op, op'] [b, c] _ => tIfE (!lastMarks [op, op'] [b, c]) (tCh X (compareOp op) (compareOp op') (rdE X N sc n a) (rdE X N sc n b) (rdE X N sc n c))
    | .Attribute a f _ => tIfE (!isSup a) (tAtr X f (rdE X N sc n a))
    | .Subscript a (.Slice none none (some (.UnaryOp .USub (.Constant (.int 1) _ _) _)) _) _ => tRevA X.K (rdE X N sc n a)
    | .Subscript a (.Slice (some lo) none (some (.Constant (.int 2) _ _)) _) _ => tEvr X.K (rdE X N sc n a) (tPart (rdE X N sc n lo))
    | .Subscript a (.Slice lo hi none _) _ => tSlc X (rdE X N sc n a) (rdO (rdE X N sc n) lo) (rdO (rdE X N sc n) hi)
    | .Subscript a b _ => tIfE (!isSlice b) (tIx X (rdE X N sc n a) (rdE X N sc n b))
    | .Tuple es _ _ => tIfE (noStar es) (tTup (rdA (rdE X N sc n) es))
    | .List es _ => tLst (rdAS X (rdE X N sc n) es)
    | .Dict [] [] _ => tDNew
    | .Dict (k :: ks) vs _ => tIfE (dOk (k :: ks) vs && decide ((k :: ks).length ≤ 15)) (tDisp (rdPairs (rdE X N sc n) (k :: ks) vs))
    | .Call (.Name x _) [] [] _ => (match kd sc x with
      | 4 => tIfE (okName x) (tCallG0 X x)
      | 1 | 2 | 3 => (match slotOf N x with
        | some i => tIfE (okName x) (tCallL0 X i)
        | none => tBad)
      | _ => tBad)
    | .Call (.Name x _) [.Lambda params body scope _] [] _ => tIfE (okName x && (kd sc x == 4 && (noPar params && LamX.lamSB sc scope))) (tLamR X x fun Y => rdE Y N scope n body)
    | .Call (.Name x _) [e] [⟨some kn, .Lambda params body scope _, _⟩] _ => (match onePar params with
      | some p => tIfE (x == "sorted" && (kn == "key" && (kd sc x == 4 && (lamS1B sc scope p && (!isStar e && !N.contains p))))) (tSortK X p (rdE X N sc n e) fun Y => rdE Y (N ++ [p]) scope n body)
      | none => tBad)
    | .DictComp kx vx [⟨tg, iter, ifs, 0⟩] scope _ => tIfE (blkC N sc scope (ownOf N scope.names) && (!isSetE iter && okIfs ifs))
      (tDcC X (rdI X sc (rdE X N sc n) tg iter) (gNm X.K N scope tg) (rdIfs (fun c => tBlkT X fun Y => rdT Y N (relS scope sc) n c) ifs) (tBlk X fun Y => rdE Y N (relS scope sc) n kx) (tBlk X fun Y => rdE Y N (relS scope sc) n vx) ((ownOf N scope.names).map (·.2)))
    | .Call (.Name x _) (e :: es) [] _ => (match kd sc x with
      | 4 => tIfE (okName x && noStar (e :: es)) (tCallG X x (rdA (rdE X N sc n) (e :: es)))
      | 1 | 2 | 3 => (match slotOf N x with
        | some i => tIfE (okName x && noStar (e :: es)) (tCallL X i (rdA (rdE X N sc n) (e :: es)))
        | none => tBad)
      | _ => tBad)
    | .ListComp elt [⟨tg, iter, ifs, 0⟩] scope _ => tIfE (blkC N sc scope (ownOf N scope.names) && (!isSetE iter && okIfs ifs))
      (tLcC X (rdI X sc (rdE X N sc n) tg iter) (gNm X.K N scope tg) (rdIfs (fun c => tBlkT X fun Y => rdT Y N (relS scope sc) n c) ifs) (tBlk X fun Y => rdE Y N (relS scope sc) n elt) ((ownOf N scope.names).map (·.2)))
    | .ListComp elt [⟨tg, iter, ifs, 0⟩, ⟨tg1, iter1, ifs1, 0⟩] scope _ => tIfE (blkC N sc scope (ownOf N scope.names) && ((!isSetE iter && !isSetE iter1) && (okIfs ifs && (okIfs ifs1 && (sub1 (ownOf N scope.names) tg1).all fun i => ((ownOf N scope.names).map (·.2)).contains i))))
      (tLc2C X (rdI X sc (rdE X N sc n) tg iter) (gNm X.K N scope tg) (rdIfs (fun c => tBlkT X fun Y => rdT Y N (relS scope sc) n c) ifs)
        (iBlk X fun Y => rdI Y (relS scope sc) (rdE Y N (relS scope sc) n) tg1 iter1) (gNm X.K N scope tg1) (rdIfs (fun c => tBlkT X fun Y => rdT Y N (relS scope sc) n c) ifs1)
        (tBlk X fun Y => rdE Y N (relS scope sc) n elt) ((ownOf N scope.names).map (·.2)) (sub1 (ownOf N scope.names) tg1))
    | .Call (.Call f1 a1 k1 p1) (e :: es) [] _ => tIfE (noStar (e :: es)) (tCallE X (rdE X N sc n (.Call f1 a1 k1 p1)) (rdA (rdE X N sc n) (e :: es)))
    | .Call (.UnaryOp o1 e1 p1) (e :: es) [] _ => tIfE (noStar (e :: es)) (tCallE X (rdE X N sc n (.UnaryOp o1 e1 p1)) (rdA (rdE X N sc n) (e :: es)))
    | .Call (.Attribute o m ap) args [] p => tIfE (!isSup o && (noStar args && (decide (args.length < 30) && ap.endLine == p.line))) (tMth X m (rdE X N sc n o) (rdA (rdE X N sc n) args))
    | .FormattedValue e (.negSucc 0) none _ => tFmt (rdE X N sc n e)
    | .JoinedStr (v1 :: v2 :: rest) _ => tFst ((v1 :: v2 :: rest).map (rdE X N sc n))
    | _ => tBad
def rdT : Cx → List Str → Scope → Nat → Expr → TT
  | _, _, _, 0, _ => tBadT
  | X, N, sc, n + 1, e => match e with
    | .UnaryOp .Not a _ => tNot (rdT X N sc n a)
    | .BoolOp op vs _ => rdBoolT (rdT X N sc n) op vs
    | .IfExp c a b _ => tIfT (rdT X N sc n c) (rdT X N sc n a) (rdT X N sc n b)
    | .Compare a [op] [b] _ => (match behindInMarks op b with
      | true => tBadT
      | false => tTru X (tBin X (compareOp op) (rdE X N sc n a) (rdE X N sc n b)))
    | .Compare a [op, op'] [b, c] _ => (match lastMarks [op, op'] [b, c] with
      | true => tBadT
      | false => tTest (tCh X (compareOp op) (compareOp op') (rdE X N sc n a) (rdE X N sc n b) (rdE X N sc n c)))
    | e => (match plainT e with
      | true => tTru X (rdE X N sc n e)
      | false => tBadT)
end
section
variable {X : Cx} {N : List Str} {sc : Scope}
theorem rdO_ok {r : Expr → TE} (h : ∀ e, PE X e (r e)) : ∀ {o : Option Expr}, PO X o (rdO r o)
  | none => po_none
  | some e => po_some (h e)
theorem rdBool_ok {r : Expr → TE} (h : ∀ e, PE X e (r e)) {pos : Pos} : ∀ {op : BoolOp} {es : List Expr}, PE X (.BoolOp op es pos) (rdBool X r op es)
  | op, [] => by cases op <;> exact PE.bad
  | op, [e] => by cases op <;> exact pe_one (h e)
  | .And, e :: e2 :: es => pe_andE (h e) (rdBool_ok h (op := .And) (es := e2 :: es))
  | .Or, e :: e2 :: es => pe_orE (h e) (rdBool_ok h (op := .Or) (es := e2 :: es))
theorem PW.bad {e : Expr} : PW X e tBadT := ⟨fun _ _ _ _ _ _ _ h => h.elim⟩
theorem rdBoolT_ok {r : Expr → TT} (h : ∀ e, PT X e (r e)) {pos : Pos} : ∀ {op : BoolOp} {es : List Expr}, PW X (.BoolOp op es pos) (rdBoolT r op es)
  | op, [] => by cases op <;> exact PW.bad
  | .And, [e] => pw_and1 (h e)
  | .Or, [e] => pw_or1 (h e)
  | .And, e :: e2 :: es => pw_and (h e) (rdBoolT_ok h (op := .And) (es := e2 :: es))
  | .Or, e :: e2 :: es => pw_or (h e) (rdBoolT_ok h (op := .Or) (es := e2 :: es))
theorem blk_fits {X : Cx} {N : List Str} {sc scope : Scope} (F : Fits X N sc) {s : Shared} {H : Hp} {C : Addr} {cl : List (Str × Addr)} {fp : List Addr} : Fits (X.blk s H scope (compEnvC scope cl C X.env) fp) N (relS scope sc) := by
  obtain ⟨rfl, rfl, nd⟩ := F
  exact ⟨rfl, rfl, nd⟩
theorem blk_fitsW {X : Cx} {N : List Str} {sc scope : Scope} {own : List (Str × Nat)} (F : Fits X N sc) (ok : BlkOk N sc scope own) {s : Shared} {H : Hp} {C : Addr} {cl : List (Str × Addr)} {fp : List Addr} : FitsW (X.blk s H scope (compEnvC scope cl C X.env) fp) N scope := by
  obtain ⟨rfl, rfl, nd⟩ := F
  refine ⟨rfl, nd, fun x h => ?_, fun x h => ?_, fun x h => ?_⟩
  · rcases h with h | h
    · exact .inl (lookup_relS_keep (by decide) h)
    · exact .inr (lookup_relS_keep (by decide) h)
  · show (scope.names.lookup x == some .cell) = true
    rw [h]
    rfl
  · exact lookup_relS_keep (by decide) h
theorem rd_ok : ∀ (n : Nat) {X : Cx} {N : List Str} {sc : Scope}, Fits X N sc → (∀ e, PE X e (rdE X N sc n e)) ∧ (∀ e, PT X e (rdT X N sc n e))
  | 0, X, N, sc, F => ⟨fun e => by unfold rdE; exact PE.bad, fun e => by unfold rdT; exact PT.bad⟩
  | n + 1, X, N, sc, F => by
    obtain ⟨hE, hT⟩ := rd_ok n F
    have hb : ∀ (scope : Scope) (s : Shared) (H : Hp) (C : Addr) (cl : List (Str × Addr)) (fp : List Addr), Fits (X.blk s H scope (compEnvC scope cl C X.env) fp) N (relS scope sc) := fun scope s H C cl fp => blk_fits F
    have hIf : ∀ (scope : Scope) (ifs : List Expr) (s : Shared) (H : Hp) (C : Addr) (cl : List (Str × Addr)) (fp : List Addr), okIfs ifs = true → PTs (X.blk s H scope (compEnvC scope cl C X.env) fp) ifs (rdIfs (fun c => tBlkT X fun Y => rdT Y N (relS scope sc) n c) ifs) := fun scope ifs s H C cl fp ok => by
      match ifs, ok with
      | [], _ => exact pts_nil
      | [c], _ => exact pts_one ⟨fun pins s2 σ H2 Q I h => ((rd_ok n (hb scope s H C cl fp)).2 c).run pins s2 σ H2 Q I (h _ ⟨scope, s, H, C, cl, fp, rfl⟩)⟩
    have hg : ∀ {x : Str}, kd sc x = 4 → Gl X x := fun {x} k => by
      show X.env.scope.names.lookup x = _
      rw [F.s]
      exact kd_glo k
    refine ⟨fun e => ?_, fun e => ?_⟩
    · unfold rdE
      split
      · exact pe_int
      · exact pe_bl
      · exact pe_non
      · exact pe_str
      · exact name_ok F
      · exact pe_bin (hE _) (hE _)
      · exact pe_uny (hE _)
      · exact rdBool_ok hE
      · exact pe_ifExp (hT _) (hE _) (hE _)
      · exact ifE fun h => pe_cmp1 (hE _) (hE _) (by simpa using h)
      · exact ifE fun h => pe_ch (hE _) (hE _) (hE _) (by simpa using h)
      · exact ifE fun h => pe_atr (hE _) (base_ok (by simpa using h))
      · exact pe_revA (hE _)
      · exact pe_evr (hE _) (po_some (hE _))
      · exact pe_slc (hE _) (rdO_ok hE) (rdO_ok hE)
      · exact ifE fun h => pe_ixv (by simpa using h) (hE _) (hE _)
      · exact ifE fun h => pe_tup (rdA_ok hE h)
      · exact pe_lst (rdAS_ok hE)
      · exact ⟨fun pins s σ H Q I h => h.elim (fun h => pe_dnewK.run pins s σ H Q I h) fun h => pe_dnewT.run pins s σ H Q I h⟩
      · refine ifE fun h => ?_
        simp only [Bool.and_eq_true, decide_eq_true_eq] at h
        obtain ⟨a, b, c⟩ := rdPairs_ok hE h.1
        exact pe_disp a b c (by simp) h.2
      · split
        · rename_i hk
          refine ifE fun h => ?_
          obtain ⟨h1, h2, h3⟩ := okName_ok h
          exact pe_callG0 (hg hk) h1 h3
        all_goals first
          | (rename_i hk
             split
             · rename_i i ei
               refine ifE fun h => ?_
               obtain ⟨h1, h2, h3⟩ := okName_ok h
               exact pe_callL0 (by rw [F.n]; exact slotOf_ok ei) (by rw [F.s]; exact kd_vis (by omega)) h1 h2
             · exact PE.bad)
          | exact PE.bad
      · refine ifE fun h => ?_
        rename_i params body scope lpos pos
        simp only [Bool.and_eq_true, beq_iff_eq] at h
        obtain ⟨h1, h2, h3, h4⟩ := h
        obtain ⟨n1, n2, n3⟩ := okName_ok h1
        exact pe_lamR (hg h2) n1 (LamX.lamS_by (by rw [F.s]; exact h4)) h3 fun k Y E lc e1 e2 => (rd_ok n (sc := scope) ⟨e2.trans F.n, e1, F.nd⟩).1 body
      · split
        · rename_i p hp
          refine ifE fun h => ?_
          simp only [Bool.and_eq_true, beq_iff_eq, Bool.not_eq_true'] at h
          obtain ⟨hx, hkn, hk, hl, hs, hn⟩ := h
          subst hx
          subst hkn
          have np : p ∉ N := fun z => by rw [List.contains_iff_mem.mpr z] at hn; cases hn
          refine pe_sortK (hg hk) (lamS1_by (by rw [F.s]; exact hl)) (by rw [F.n]; exact np) hp (hE _) hs fun k Y E lc e1 e2 => (rd_ok n ⟨e2.trans (by rw [F.n]), e1, ?_⟩).1 _
          rw [List.nodup_append]
          exact ⟨F.nd, by simp, fun a ha b hb z => np (by rw [List.mem_singleton.mp hb] at z; rw [← z]; exact ha)⟩
        · exact PE.bad
      · refine ifE fun h => ?_
        rename_i kx vx tg iter ifs scope pos
        simp only [Bool.and_eq_true, Bool.not_eq_true'] at h
        obtain ⟨h1, h2, h3⟩ := h
        refine ⟨fun pins s σ H Q I hw => ?_⟩
        have ok := blkOk_by h1
        exact (pe_dc (own := ownOf N scope.names) hw.1 (by rw [F.n]; exact F.nd) (rdI_ok F hE) (by rw [F.n, F.s]; exact ok) (fun s H C cl fp => gNm_ok (blk_fitsW F ok) hw.1 _) (fun s H C cl fp => hIf scope ifs s H C cl fp h3)
          (fun s H C cl fp => ⟨fun pins s2 σ H2 Q I h => ((rd_ok n (hb scope s H C cl fp)).1 kx).run pins s2 σ H2 Q I (h _ ⟨scope, s, H, C, cl, fp, rfl⟩)⟩)
          (fun s H C cl fp => ⟨fun pins s2 σ H2 Q I h => ((rd_ok n (hb scope s H C cl fp)).1 vx).run pins s2 σ H2 Q I (h _ ⟨scope, s, H, C, cl, fp, rfl⟩)⟩) (fun x => by cases iter <;> first | rfl | cases h2)).run pins s σ H Q I hw.2
      · split
        · rename_i hk
          refine ifE fun h => ?_
          simp only [Bool.and_eq_true, beq_iff_eq] at h
          obtain ⟨h1, h2, h3⟩ := okName_ok h.1
          obtain ⟨n1, n2⟩ := noStar_cons h.2
          exact pe_callG (hg hk) h1 h3 (rdA_ok hE h.2) (star_hd n1) (star_any n2)
        all_goals first
          | (rename_i hk
             split
             · rename_i i ei
               refine ifE fun h => ?_
               simp only [Bool.and_eq_true, beq_iff_eq] at h
               obtain ⟨h1, h2, h3⟩ := okName_ok h.1
               obtain ⟨n1, n2⟩ := noStar_cons h.2
               exact pe_callLv (by rw [F.n]; exact slotOf_ok ei) (by rw [F.s]; exact kd_vis (by omega)) (rdA_ok hE h.2) h1 h2 (star_hd n1) (star_any n2)
             · exact PE.bad)
          | exact PE.bad
      · refine ifE fun h => ?_
        rename_i elt tg iter ifs scope pos
        simp only [Bool.and_eq_true, Bool.not_eq_true'] at h
        obtain ⟨h1, h2, h3⟩ := h
        refine ⟨fun pins s σ H Q I hw => ?_⟩
        have ok := blkOk_by h1
        exact hw.2.elim (fun hw2 => (pe_lc (own := ownOf N scope.names) hw.1 (by rw [F.n]; exact F.nd) (rdI_ok F hE) (by rw [F.n, F.s]; exact ok) (fun s H C cl fp => gNm_ok (blk_fitsW F ok) hw.1 _) (fun s H C cl fp => hIf scope ifs s H C cl fp h3)
          (fun s H C cl fp => ⟨fun pins s2 σ H2 Q I h => ((rd_ok n (hb scope s H C cl fp)).1 elt).run pins s2 σ H2 Q I (h _ ⟨scope, s, H, C, cl, fp, rfl⟩)⟩) (fun x => by cases iter <;> first | rfl | cases h2)).run pins s σ H Q I hw2)
          (fun hw2 => (pe_lock (pe_lc (own := ownOf N scope.names) hw.1 (by rw [F.n]; exact F.nd) (rdI_ok F hE) (by rw [F.n, F.s]; exact ok) (fun s H C cl fp => gNm_ok (blk_fitsW F ok) hw.1 _) (fun s H C cl fp => hIf scope ifs s H C cl fp h3)
          (fun s H C cl fp => ⟨fun pins s2 σ H2 Q I h => ((rd_ok n (hb scope s H C cl fp)).1 elt).run pins s2 σ H2 Q I (h _ ⟨scope, s, H, C, cl, fp, rfl⟩)⟩) (fun x => by cases iter <;> first | rfl | cases h2))).run pins s σ H Q I hw2)
      · refine ifE fun h => ?_
        rename_i elt tg iter ifs tg1 iter1 ifs1 scope pos
        simp only [Bool.and_eq_true, Bool.not_eq_true'] at h
        obtain ⟨h1, ⟨h2, h3⟩, h4, h5, h6⟩ := h
        refine ⟨fun pins s σ H Q I hw => ?_⟩
        have ok := blkOk_by h1
        exact (pe_lc2 (own := ownOf N scope.names) hw.1 (by rw [F.n]; exact F.nd) (rdI_ok F hE) (by rw [F.n, F.s]; exact ok) (fun i hi => List.contains_iff_mem.mp (List.all_eq_true.mp h6 i hi)) (fun s H C cl fp => gNm_ok (blk_fitsW F ok) hw.1 _) (fun s H C cl fp => hIf scope ifs s H C cl fp h4)
          (fun s H C cl fp => ⟨fun pins s2 σ H2 R I h => (rdI_ok (hb scope s H C cl fp) (rd_ok n (hb scope s H C cl fp)).1 (tg := tg1) (e := iter1)).run pins s2 σ H2 R I (h _ ⟨scope, s, H, C, cl, fp, rfl⟩)⟩)
          (fun s H C cl fp => gNm_ok (blk_fitsW F ok) hw.1 _) (fun s H C cl fp => hIf scope ifs1 s H C cl fp h5)
          (fun s H C cl fp => ⟨fun pins s2 σ H2 Q I h => ((rd_ok n (hb scope s H C cl fp)).1 elt).run pins s2 σ H2 Q I (h _ ⟨scope, s, H, C, cl, fp, rfl⟩)⟩) (fun x => by cases iter <;> first | rfl | cases h2) (fun _ x => by cases iter1 <;> first | rfl | cases h3)).run pins s σ H Q I hw.2
      · refine ifE fun h => ?_
        obtain ⟨n1, n2⟩ := noStar_cons h
        exact pe_callE (hE _) rfl (rdA_ok hE h) (star_hd n1) (star_any n2)
      · refine ifE fun h => ?_
        obtain ⟨n1, n2⟩ := noStar_cons h
        exact pe_callE (hE _) rfl (rdA_ok hE h) (star_hd n1) (star_any n2)
      · refine ifE fun h => ?_
        rename_i o m ap args p
        simp only [Bool.and_eq_true, decide_eq_true_eq, Bool.not_eq_true'] at h
        obtain ⟨h1, h2, h3, h4⟩ := h
        cases args with
        | nil => exact pe_mth0 h1 h4 (hE _)
        | cons e es => exact pe_mth h1 h2 h3 h4 (hE _) (rdA_ok hE h2)
      · exact pe_fmt (hE _)
      · exact pe_joined (pj_map hE _)
      · exact PE.bad
    · unfold rdT
      split
      · exact pt_not (hT _)
      · exact (rdBoolT_ok hT).pt
      · exact pt_ifE (hT _) (hT _) (hT _)
      · split
        · exact PT.bad
        · exact pt_cmp1 (hE _) (hE _) (by assumption)
      · split
        · exact PT.bad
        · exact pt_ch (hE _) (hE _) (hE _) (by assumption)
      · split
        · exact pt_any (hE _) (isTrue_ok (by assumption))
        · exact PT.bad
end

/-! ### name = [..] -/
def lcSw (sc : Scope) (scope : Scope) (y : Str) (py pos : Pos) : Bool := kd sc y == 1 && (py.line == pos.line && !(scope.names.any fun (n, k) => n == y && (k == .local || k == .cell)))
theorem ps_badA {X : Cx} {st : Stmt} {g : TG} : PS X st (tAsg tBad g) := ⟨fun _ _ _ _ _ _ h => h.elim⟩
theorem kd1 {sc : Scope} {x : Str} (h : kd sc x = 1) : sc.names.lookup x = some .local := by
  unfold kd at h
  split at h <;> simp_all
theorem setLc_ok {X : Cx} {N : List Str} {sc : Scope} (F : Fits X N sc) (hk : sc.kind = .function) (n : Nat) {elt : Expr} {gens : List Comprehension} {scope : Scope} {pos py spos : Pos} {y : Str} {i : Nat} (hi : slotOf N y = some i) (hs : lcSw sc scope y py pos = true) :
    PS X (.Assign [.Name y py] (.ListComp elt gens scope pos) spos) (tAsg (rdE X N sc n (.ListComp elt gens scope pos)) (gName i)) := by
  unfold lcSw at hs
  simp only [Bool.and_eq_true, beq_iff_eq, Bool.not_eq_true'] at hs
  obtain ⟨ky, hl, ha⟩ := hs
  have hyl : X.env.scope.names.lookup y = some .local := by
    rw [F.s]
    exact kd1 ky
  have hsw : swapsWith (.ListComp elt gens scope pos) (some (.Name y py)) spos.line X.env = pure true := sw_true (by rw [F.s]; exact hk) hyl (by rw [hl]; exact beq_self_eq_true _) ha
  have hy : X.N[i]? = some y := by rw [F.n]; exact slotOf_ok hi
  have hN : X.N.Nodup := by rw [F.n]; exact F.nd
  match n with
  | 0 => unfold rdE; exact ps_badA
  | n + 1 =>
    obtain ⟨hE, hT⟩ := rd_ok n F
    have hb : ∀ (scope : Scope) (s : Shared) (H : Hp) (C : Addr) (cl : List (Str × Addr)) (fp : List Addr), Fits (X.blk s H scope (compEnvC scope cl C X.env) fp) N (relS scope sc) := fun scope s H C cl fp => blk_fits F
    have hIf : ∀ (scope : Scope) (ifs : List Expr) (s : Shared) (H : Hp) (C : Addr) (cl : List (Str × Addr)) (fp : List Addr), okIfs ifs = true → PTs (X.blk s H scope (compEnvC scope cl C X.env) fp) ifs (rdIfs (fun c => tBlkT X fun Y => rdT Y N (relS scope sc) n c) ifs) := fun scope ifs s H C cl fp ok => by
      match ifs, ok with
      | [], _ => exact pts_nil
      | [c], _ => exact pts_one ⟨fun pins s2 σ H2 Q I h => ((rd_ok n (hb scope s H C cl fp)).2 c).run pins s2 σ H2 Q I (h _ ⟨scope, s, H, C, cl, fp, rfl⟩)⟩
    have el : ∀ (s : Shared) (H : Hp) (C : Addr) (cl : List (Str × Addr)) (fp : List Addr), PE (X.blk s H scope (compEnvC scope cl C X.env) fp) elt (tBlk X fun Y => rdE Y N (relS scope sc) n elt) := fun s H C cl fp =>
      ⟨fun pins s2 σ H2 Q I h => ((rd_ok n (hb scope s H C cl fp)).1 elt).run pins s2 σ H2 Q I (h _ ⟨scope, s, H, C, cl, fp, rfl⟩)⟩
    unfold rdE
    split
    all_goals first
      | exact ps_badA
      | (rename_i q; cases q; done)
      | skip
    · rename_i q
      cases q
      rename_i tg iter ifs
      cases hc : blkC N sc scope (ownOf N scope.names) && (!isSetE iter && okIfs ifs) with
      | false => exact ps_badA
      | true =>
        simp only [Bool.and_eq_true, Bool.not_eq_true'] at hc
        obtain ⟨h1, h2, h3⟩ := hc
        have ok := blkOk_by h1
        refine ⟨fun pins s σ H D I hw => ?_⟩
        exact hw.2.elim (fun hw2 => (ps_setLc (own := ownOf N scope.names) hw.1 hN hy hyl hsw (rdI_ok F hE) (by rw [F.n, F.s]; exact ok) (fun s H C cl fp => gNm_ok (blk_fitsW F ok) hw.1 _) (fun s H C cl fp => hIf scope ifs s H C cl fp h3) el (fun x => by cases iter <;> first | rfl | cases h2)).run pins s σ H D I hw2)
          (fun hw2 => (ps_lock (ps_setLc (own := ownOf N scope.names) hw.1 hN hy hyl hsw (rdI_ok F hE) (by rw [F.n, F.s]; exact ok) (fun s H C cl fp => gNm_ok (blk_fitsW F ok) hw.1 _) (fun s H C cl fp => hIf scope ifs s H C cl fp h3) el (fun x => by cases iter <;> first | rfl | cases h2))).run pins s σ H D I hw2)
    · rename_i q
      cases q
      rename_i tg iter ifs tg1 iter1 ifs1
      cases hc : blkC N sc scope (ownOf N scope.names) && ((!isSetE iter && !isSetE iter1) && (okIfs ifs && (okIfs ifs1 && (sub1 (ownOf N scope.names) tg1).all fun i => ((ownOf N scope.names).map (·.2)).contains i))) with
      | false => exact ps_badA
      | true =>
        simp only [Bool.and_eq_true, Bool.not_eq_true'] at hc
        obtain ⟨h1, ⟨h2, h3⟩, h4, h5, h6⟩ := hc
        have ok := blkOk_by h1
        refine ⟨fun pins s σ H D I hw => ?_⟩
        exact (ps_setLc2 (own := ownOf N scope.names) hw.1 hN hy hyl hsw (rdI_ok F hE) (by rw [F.n, F.s]; exact ok) (fun i hi => List.contains_iff_mem.mp (List.all_eq_true.mp h6 i hi)) (fun s H C cl fp => gNm_ok (blk_fitsW F ok) hw.1 _) (fun s H C cl fp => hIf scope ifs s H C cl fp h4)
          (fun s H C cl fp => ⟨fun pins s2 σ H2 R I h => (rdI_ok (hb scope s H C cl fp) (rd_ok n (hb scope s H C cl fp)).1 (tg := tg1) (e := iter1)).run pins s2 σ H2 R I (h _ ⟨scope, s, H, C, cl, fp, rfl⟩)⟩)
          (fun s H C cl fp => gNm_ok (blk_fitsW F ok) hw.1 _) (fun s H C cl fp => hIf scope ifs1 s H C cl fp h5) el (fun x => by cases iter <;> first | rfl | cases h2) (fun _ x => by cases iter1 <;> first | rfl | cases h3)).run pins s σ H D I hw.2
end Vc

namespace Vc
open PySem PySem.Spec PyProof.Rows L2

/-! ### targets -/
theorem PS.bad {X : Cx} {st : Stmt} : PS X st tNever := ps_never
def rdG (X : Cx) (N : List Str) (sc : Scope) (cm : Bool) (r : Expr → TE) : Nat → Expr → TG
  | 0, _ => gBad
  | n + 1, e => match e with
    | .Name x _ => gOf N sc x
    | .Subscript o i _ => (match isSlice i with
      | true => gBad
      | false => gIx X (r o) (r i))
    | .Tuple [e1, .Starred e2 _] _ _ => (match cm && !isStar e1 with
      | true => gStar X.K (rdG X N sc cm r n e1) (rdG X N sc cm r n e2)
      | false => gBad)
    | .Tuple es _ _ => (match cm && noStar es with
      | true => gUnp X.K es.length (rdGs (rdG X N sc cm r n) es)
      | false => gBad)
    | _ => gBad
section
variable {X : Cx} {N : List Str} {sc : Scope}
theorem rdG_ok (F : FitsW X N sc) {cm : Bool} (hc : cm = true → X.calm = true) {r : Expr → TE} (hr : ∀ e, PE X e (r e)) : ∀ (n : Nat) (e : Expr), PG X e (rdG X N sc cm r n e)
  | 0, _ => by unfold rdG; exact PG.bad
  | n + 1, e => by
    unfold rdG
    split
    · exact gOf_ok F
    · split
      · exact PG.bad
      · exact pg_ix (by assumption) (hr _) (hr _)
    · split
      · rename_i h
        rw [Bool.and_eq_true, Bool.not_eq_true'] at h
        exact pg_star (hc h.1) h.2 (rdG_ok F hc hr n _) (rdG_ok F hc hr n _)
      · exact PG.bad
    · split
      · rename_i h
        rw [Bool.and_eq_true] at h
        exact pg_unp (hc h.1) h.2 (rdGs_ok (rdG_ok F hc hr n) h.2)
      · exact PG.bad
    · exact PG.bad
end

/-! ### a, b = c, d: stored from the right -/
def swOk (sc : Scope) (x y : Str) (px py : Pos) (a b : Expr) : Bool :=
  (sc.names.lookup x == some .local && sc.names.lookup y == some .local) && ((py.line == px.line && !(x == y)) && ((!isStar a && !isStar b) && (!(foldedForSure 8 a && foldedForSure 8 b) && !(constantsAlone 8 a && constantsAlone 8 b))))
theorem sw_ok {sc : Scope} {env : Env} {x y : Str} {px py pt pt2 : Pos} {kt k2 : Nat} {a b : Expr} (hs : env.scope = sc) (hk : env.scope.kind = .function) (h : swOk sc x y px py a b = true) :
    swappedStores [.Tuple [.Name x px, .Name y py] kt pt] (.Tuple [a, b] k2 pt2) env = pure (some [x, y]) := by
  unfold swOk at h
  simp only [Bool.and_eq_true, beq_iff_eq, Bool.not_eq_true'] at h
  obtain ⟨⟨h1, h2⟩, ⟨h3, h4⟩, ⟨h5, h6⟩, h7, h8⟩ := h
  have kx : env.kindOf x = some .local := by show env.scope.names.lookup x = _; rw [hs]; exact h1
  have ky : env.kindOf y = some .local := by show env.scope.names.lookup y = _; rw [hs]; exact h2
  have bk : env.blockKind = .function := by unfold Env.blockKind; rw [hk]; rfl
  have ne : ¬ y = x := fun e => by rw [e] at h4; simp at h4
  have xy : (y == x) = false := by simpa using ne
  have ed : [x, y].eraseDups = [x, y] := by simp [List.eraseDups_cons, List.filter, xy]
  have fm : ∀ f : Expr → Option Str, f (.Name x px) = some x → f (.Name y py) = some y → [Expr.Name x px, Expr.Name y py].filterMap f = [x, y] := fun f e1 e2 => by simp [e1, e2]
  have cd : (env.kindOf x == some NameKind.local && px.line == px.line) = true := by rw [kx]; simp
  have ce : (env.kindOf y == some NameKind.local && py.line == px.line) = true := by rw [ky]; simp [h3]
  unfold swappedStores
  dsimp only
  rw [bk, if_neg (by simp), if_neg (by show ¬ ((isStar a || (isStar b || false)) = true); rw [h5, h6]; decide), fm _ (if_pos cd) (if_pos ce), ed, if_neg (by simp)]
  rw [if_neg (by simp only [List.all_cons, List.all_nil, Bool.and_true]; rw [h7]; decide), if_neg (by simp only [List.all_cons, List.all_nil, Bool.and_true]; rw [h8]; decide)]
def swOk3 (sc : Scope) (x y z : Str) (px py pz : Pos) (a b c : Expr) : Bool :=
  (sc.names.lookup x == some .local && (sc.names.lookup y == some .local && sc.names.lookup z == some .local)) && (((py.line == px.line && pz.line == px.line) && (!(y == x) && (!(z == x) && !(z == y)))) && ((!isStar a && (!isStar b && !isStar c)) && (!(foldedForSure 8 a && (foldedForSure 8 b && foldedForSure 8 c)) && !(constantsAlone 8 a && (constantsAlone 8 b && constantsAlone 8 c)))))
theorem sw_ok3 {sc : Scope} {env : Env} {x y z : Str} {px py pz pt pt2 : Pos} {kt k2 : Nat} {a b c : Expr} (hs : env.scope = sc) (hk : env.scope.kind = .function) (h : swOk3 sc x y z px py pz a b c = true) :
    swappedStores [.Tuple [.Name x px, .Name y py, .Name z pz] kt pt] (.Tuple [a, b, c] k2 pt2) env = pure (some [x, y, z]) := by
  unfold swOk3 at h
  simp only [Bool.and_eq_true, beq_iff_eq, Bool.not_eq_true'] at h
  obtain ⟨⟨h1, h2, h2'⟩, ⟨⟨h3, h3'⟩, h4, h4', h4''⟩, ⟨h5, h6, h6'⟩, h7, h8⟩ := h
  have kx : env.kindOf x = some .local := by show env.scope.names.lookup x = _; rw [hs]; exact h1
  have ky : env.kindOf y = some .local := by show env.scope.names.lookup y = _; rw [hs]; exact h2
  have kz : env.kindOf z = some .local := by show env.scope.names.lookup z = _; rw [hs]; exact h2'
  have bk : env.blockKind = .function := by unfold Env.blockKind; rw [hk]; rfl
  have ed : [x, y, z].eraseDups = [x, y, z] := by simp [List.eraseDups_cons, List.filter, h4, h4', h4'']
  have fm : ∀ f : Expr → Option Str, f (.Name x px) = some x → f (.Name y py) = some y → f (.Name z pz) = some z → [Expr.Name x px, Expr.Name y py, Expr.Name z pz].filterMap f = [x, y, z] := fun f e1 e2 e3 => by simp [e1, e2, e3]
  have cd : (env.kindOf x == some NameKind.local && px.line == px.line) = true := by rw [kx]; simp
  have ce : (env.kindOf y == some NameKind.local && py.line == px.line) = true := by rw [ky]; simp [h3]
  have cf : (env.kindOf z == some NameKind.local && pz.line == px.line) = true := by rw [kz]; simp [h3']
  unfold swappedStores
  dsimp only
  rw [bk, if_neg (by simp), if_neg (by show ¬ ((isStar a || (isStar b || (isStar c || false))) = true); rw [h5, h6, h6']; decide), fm _ (if_pos cd) (if_pos ce) (if_pos cf), ed, if_neg (by simp)]
  rw [if_neg (by simp only [List.all_cons, List.all_nil, Bool.and_true]; rw [h7]; decide), if_neg (by simp only [List.all_cons, List.all_nil, Bool.and_true]; rw [h8]; decide)]
/-- a target that is no local name: the tuple is made and taken apart -/
def cellIn (sc : Scope) (es : List Expr) : Bool := es.any fun e => match e with
  | .Name x _ => !(sc.names.lookup x == some .local)
  | _ => true
theorem sw_none {sc : Scope} {env : Env} {es vs : List Expr} {kt k2 : Nat} {pt pt2 : Pos} (hs : env.scope = sc) (h : cellIn sc es = true) : swappedStores [.Tuple es kt pt] (.Tuple vs k2 pt2) env = pure none := by
  have key : ∀ (l : Nat), (es.filterMap fun
      | .Name id pos => if env.kindOf id == some .local && pos.line == l then some id else none
      | _ => none).length < es.length := fun l => by
    unfold cellIn at h
    obtain ⟨e, he, hp⟩ := List.any_eq_true.mp h
    obtain ⟨a, b, rfl⟩ := List.append_of_mem he
    rw [List.filterMap_append, List.length_append, List.length_append, List.filterMap_cons_none, List.length_cons]
    · have h1 := List.length_filterMap_le (fun
        | .Name id pos => if env.kindOf id == some .local && pos.line == l then some id else none
        | _ => none) a
      have h2 := List.length_filterMap_le (fun
        | .Name id pos => if env.kindOf id == some .local && pos.line == l then some id else none
        | _ => none) b
      omega
    · cases e with
      | Name x q =>
        have z : (env.kindOf x == some .local) = false := by
          show (env.scope.names.lookup x == some .local) = false
          rw [hs]
          simpa using hp
        dsimp only
        rw [z, Bool.false_and]
        rfl
      | _ => rfl
  unfold swappedStores
  dsimp only
  split
  · rfl
  split
  · rfl
  rw [if_pos]
  have := key ((es.head?.map (·.pos.line)).getD 0)
  rw [Bool.or_eq_true, bne_iff_ne]
  exact .inl (Nat.ne_of_lt this)
/-- all the values are constants: one tuple -/
theorem sw_fold {env : Env} {es vs : List Expr} {kt k2 : Nat} {pt pt2 : Pos} (h : vs.all (foldedForSure 8) = true) : swappedStores [.Tuple es kt pt] (.Tuple vs k2 pt2) env = pure none := by
  unfold swappedStores
  dsimp only
  split
  · rfl
  split
  · rfl
  split
  · rfl
  first | rfl | rw [if_pos h]
def apartIn (sc : Scope) (es vs : List Expr) : Bool := cellIn sc es || vs.all (foldedForSure 8)
theorem sw_apart {sc : Scope} {env : Env} {es vs : List Expr} {kt k2 : Nat} {pt pt2 : Pos} (hs : env.scope = sc) (h : apartIn sc es vs = true) : swappedStores [.Tuple es kt pt] (.Tuple vs k2 pt2) env = pure none := by
  unfold apartIn at h
  rcases Bool.or_eq_true_iff.mp h with h | h
  · exact sw_none hs h
  · exact sw_fold h
end Vc

namespace Vc
open PySem PySem.Spec PyProof.Rows L2
/-! ### except clauses, some with a name; exceptions near and far (after the kit's ps_try_many, ps_try_as, ps_try_onlyX) -/
abbrev TSu := Bool → Addr → Value → Option Addr → TS
def endA (D : Ends) : Option Nat → Ends
  | none => D
  | some i => { nx := fun σ' H' => D.nx (σ'.set i none) H', rt := D.rt, bk := fun σ' H' => D.bk (σ'.set i none) H', ct := fun σ' H' => D.ct (σ'.set i none) H' }
def setA (σ : L2.St) (a : Addr) : Option Nat → L2.St
  | none => σ
  | some i => σ.set i (some (.ref a))
def wManyH (K : PySem.W.Frag) (Wout : WX) (D : Ends) (h : Bool) : List (Value × Option Nat × TSu) → WX
  | [] => fun cls d σ H => match h with
    | true => Wout cls d σ H
    | false => Wout (far cls) d σ H
  | (c, o, ts) :: r => fun cls d σ H => ∃ b, PySem.W.exmOne K cls c = some b ∧ (b = true → ∀ a, H a = none → ts h a cls d (endA D o) (setA σ a o) H) ∧ (b = false → wManyH K Wout D h r cls d σ H)
def wManyV (K : PySem.W.Frag) (Wout : WX) (D : Ends) (l : List (Value × Option Nat × TSu)) : WX := fun cls d σ H => match cls with
  | .int i _ => wManyH K Wout D false l (.ref i.toNat) d σ H
  | c => wManyH K Wout D true l c d σ H
theorem wManyV_near {K : PySem.W.Frag} {Wout : WX} {D : Ends} {l : List (Value × Option Nat × TSu)} {cls : Value} {d : Option Addr} {σ : L2.St} {H : Hp} (h : nearW (wManyV K Wout D l) cls d σ H) : (∃ a, cls = .ref a) ∧ wManyH K Wout D true l cls d σ H := by
  obtain ⟨⟨a, rfl⟩, h2⟩ := h
  exact ⟨⟨a, rfl⟩, h2⟩
theorem wManyV_far {K : PySem.W.Frag} {Wout : WX} {D : Ends} {l : List (Value × Option Nat × TSu)} {cls : Value} {d : Option Addr} {σ : L2.St} {H : Hp} (h : farW (wManyV K Wout D l) cls d σ H) : (∃ a, cls = .ref a) ∧ wManyH K Wout D false l cls d σ H := by
  obtain ⟨⟨a, rfl⟩, h2⟩ := h
  exact ⟨⟨a, rfl⟩, h2⟩
inductive HdsOkV (X : Cx) (Wout : WX) : List ExceptHandler → List (Value × Option Nat × TSu) → Prop
  | nil : HdsOkV X Wout [] []
  | cons {x : Str} {c : Value} {ts : TSu} {b₀ : Stmt} {suite : List Stmt} {np pos' : Pos} {hds : List ExceptHandler} {l : List (Value × Option Nat × TSu)} (hc : Names X x c)
      (hsu : ∀ (h : Bool) (a : Addr) (oe : Obj) (cls : Value) (d : Option Addr) (pn : List (Addr × Obj)), Zc cls d oe → (∃ vs, oe.data = .fields vs) → PSs (X.suite a ((a, oe) :: pn)) (b₀ :: suite) (ts h a cls d)) (r : HdsOkV X Wout hds l) :
      HdsOkV X Wout (.ExceptHandler (some (.Name x np)) none (b₀ :: suite) pos' :: hds) ((c, none, ts) :: l)
  | consX {x : Str} {c : Value} {ts : TSu} {b₀ : Stmt} {suite : List Stmt} {np pos' : Pos} {hds : List ExceptHandler} {l : List (Value × Option Nat × TSu)} (hc : Names X x c)
      (hsu : ∀ (h : Bool) (a : Addr) (oe : Obj) (cls : Value) (d : Option Addr) (pn : List (Addr × Obj)), Zb h cls d oe → (∃ vs, oe.data = .fields vs) → L2.Takes (suiteX X a ((a, oe) :: pn)) (farW Wout) → PSs (suiteX X a ((a, oe) :: pn)) (b₀ :: suite) (ts h a cls d)) (r : HdsOkV X Wout hds l) :
      HdsOkV X Wout (.ExceptHandler (some (.Name x np)) none (b₀ :: suite) pos' :: hds) ((c, none, ts) :: l)
  | consA {x n : Str} {c : Value} {i : Nat} {ts : TSu} {b₀ : Stmt} {suite : List Stmt} {np pos' : Pos} {hds : List ExceptHandler} {l : List (Value × Option Nat × TSu)}
      (hN : X.N.Nodup) (hi : X.N[i]? = some n) (hln : X.env.kindOf n = some .local) (hc : Names X x c)
      (hsu : ∀ (h : Bool) (a : Addr) (oe : Obj) (cls : Value) (d : Option Addr) (pn : List (Addr × Obj)), Zc cls d oe → (∃ vs, oe.data = .fields vs) → PSs (X.suite a ((a, oe) :: pn)) (b₀ :: suite) (ts h a cls d)) (r : HdsOkV X Wout hds l) :
      HdsOkV X Wout (.ExceptHandler (some (.Name x np)) (some n) (b₀ :: suite) pos' :: hds) ((c, some i, ts) :: l)
section
variable {X : Cx} {body : List Stmt} {h₀ : ExceptHandler} {hds : List ExceptHandler} {l : List (Value × Option Nat × TSu)} {pos : Pos} {tb : WX → TS} {Wout : WX}
theorem ps_tryV (hs : X.stack = X.env :: X.outer) (hf : X.env.frame = some X.env.locals) (hpa : ∀ hd : Option Value, PassesOwnAt (model X.prog X.w) (X.A.mark hd) X.A X.env X.xe) (tk : TakesV X Wout)
    (hb : ∀ (W : WX) (pn : List (Addr × Obj)) (xe : Value → Shared → Prop), TakesV (X.tr pn xe) W → PassesOwn (model X.prog X.w) X.A X.env xe → (∀ hd : Option Value, PassesOwnAt (model X.prog X.w) (X.A.mark hd) X.A X.env xe) → PSs (X.tr pn xe) body (tb W))
    (hh : HdsOkV X Wout (h₀ :: hds) l) : PS X (.Try body (h₀ :: hds) [] [] pos) (fun D σ H => tb (wManyV X.K Wout D l) D σ H) := by
  refine ⟨fun pins s σ H D I h => ?_⟩
  have ok := I.ok
  have hfr : X.A.frames = some (X.env :: X.outer) := by rw [ok.frames, hs]
  -- the catch, by what is known of the object
  have catch_ : ∀ (h : Bool) (Z : Obj → Prop) (hZ : PXN.Steady1 Z) (a : Addr) (B : Heap) (sI s' : Shared) (pins' : List (Addr × Obj)) (σ' : L2.St) (H' : Hp) (cls : Value) (d : Option Addr), (∀ o, Z o → Zb h cls d o) → (∃ a, cls = .ref a) → (h = true → ∀ o, Z o → L2N.Zn cls d o) →
      Inv (X.tr (X.pn ++ pins) (fun e s₁ => wpAny (model X.prog X.w) X.A (noteFrame e X.env) (fun _ s₂ => wpAny (model X.prog X.w) X.A (setFlight e none) (fun _ s₃ => wpAny (model X.prog X.w) X.A (handleBy e X.env (h₀ :: hds)) (SP X pins D) X.xe s₃) X.xe s₂) X.xe s₁)) pins' σ' H' sI →
      (∀ b o, sI.heap.get? b = some o → b ∉ frs X.stack → B.get? b = some o) → sI.heap.UpToSlots s'.heap → Sky B X.stack a Z X.env.locals s'.heap → H' a = none → s'.os = sI.os → AllBare s'.gens → wManyH X.K Wout D h l cls d σ' H' →
      wpAny (model X.prog X.w) X.A (noteFrame (.ref a) X.env) (fun _ s₂ => wpAny (model X.prog X.w) X.A (setFlight (.ref a) none) (fun _ s₃ => wpAny (model X.prog X.w) X.A (handleBy (.ref a) X.env (h₀ :: hds)) (SP X pins D) X.xe s₃) X.xe s₂) X.xe s' := by
    intro h Z hZ a B sI s' pins' σ' H' cls d zb zfar znear J' nb up sky na os ag w
    have J : Inv X pins σ' H' sI := J'.ofTry ok
    have sky' : Sky B (X.env :: X.outer) a Z X.env.locals s'.heap := by rw [← hs]; exact sky
    refine L2N.Sky.land hZ hfr hf sky' fun h3 fl3 up3 => ?_
    have J3 : Inv X pins σ' H' { s' with heap := h3 } := J.landed nb fl3.1 (up.trans up3) os ag
    obtain ⟨oe3, vs3, he3, hz3, hd3⟩ := fl3.there
    have notFr : ∀ {h : Heap} {o : Obj} {vs : Array Value}, h.FunFrames B (X.env :: X.outer) → h.get? a = some o → o.data = .fields vs → a ∉ frs (X.env :: X.outer) := fun {h o vs} ff e dd hm => by
      obtain ⟨_, o', e', hnf⟩ := ff.mem hm
      rw [e] at e'; cases e'
      exact hnf _ dd
    have nfr := notFr fl3.2.2.1 he3 hd3
    have nL : a ≠ X.env.locals := fun z => nfr (List.mem_filterMap.mpr ⟨X.env, List.mem_cons_self, by rw [hf, z]⟩)
    have nF : a ∉ X.fs := fun hm => by
      obtain ⟨e, he, q⟩ := List.mem_filterMap.mp hm
      exact nfr (List.mem_filterMap.mpr ⟨e, List.mem_cons_of_mem _ he, q⟩)
    have S3 := J3.suite he3 hd3 na nL nF
    have go : ∀ {hds' : List ExceptHandler} {l' : List (Value × Option Nat × TSu)}, HdsOkV X Wout hds' l' → wManyH X.K Wout D h l' cls d σ' H' →
        wpAny (model X.prog X.w) X.A (handleBy (.ref a) X.env hds') (SP X pins D) X.xe { s' with heap := h3 } := by
      intro hds' l' hk
      induction hk with
      | nil =>
        intro w
        refine wpAny_handleBy_nil ?_
        obtain ⟨k1, k2, k3, oe, vs, T, oT, ts', he, hz, hd, h1, hr⟩ := id fl3
        unfold PySem.passOn
        refine wpAny_bind (wpAny_field he hd h1 ?_)
        rw [if_neg (show ¬ ((Value.ref T == Value.none) = true) from by simp)]
        have fin : wpAny (model X.prog X.w) X.A (setFlight (.ref a) X.env.frame) (fun _ s4 => wpAny (model X.prog X.w) X.A (throw (.ref a) : Sem Flow) (SP X pins D) X.xe s4) X.xe { s' with heap := h3 } := by
          rw [hf]
          refine HandSPX.setFlight_upZ fl3 fun h4 hh4 up4 => wpAny_throw ?_
          have im : ∀ {Z' : Obj → Prop}, (∀ o, Z o → Z' o) → HandSPX.HeldZ B (X.env :: X.outer) a Z' X.env.locals h4 := fun {Z'} zz => ⟨hh4.1, hh4.2.1, hh4.2.2.1, L2H.tracedZ_imp zz hh4.2.2.2⟩
          cases h with
          | true =>
            exact tk.1 _ _ ⟨a, B, sI, pins, σ', H', cls, d, rfl, J, nb, (up.trans up3).trans up4, .inr (.inr (by rw [hs]; exact im (znear rfl))), na, os, ag, zfar, w⟩
          | false =>
            exact tk.2 _ _ ⟨a, B, sI, pins, σ', H', cls, d, rfl, J, nb, (up.trans up3).trans up4, .inr (.inr (by rw [hs]; exact im fun o z => (zb o z).1)), na, os, ag, zfar, w⟩
        first
          | exact wpAny_bind (wpAny_pure (wpAny_bind fin))
          | exact wpAny_bind fin
      | @cons x c ts b₀ suite np pos' hds2 l2 hc hsu r ih =>
        intro w
        obtain ⟨b, hb1, hyes, hno⟩ := w
        refine wpAny_handleBy_cons (codeAny_handlers_test ?_) (by intro q; cases q)
        have LT : PySem.W.Looks (model X.prog X.w) h3 (typeOf (.ref a)) cls := fun A Q E s k q => wpAny_typeOf_ref (k _ _ he3) (by rw [(zb _ hz3).1.1]; exact q)
        have LM := PySem.W.exm_one (M := model X.prog X.w) (J3.kIn) LT hb1
        have test : ∀ {Q : Value → Shared → Prop} {E : Value → Shared → Prop}, Q c { s' with heap := h3 } → wpAny (model X.prog X.w) (X.A.mark (some (.ref a))) (eval (.Name x np) X.env) Q E { s' with heap := h3 } := fun {Q E} q => by
          obtain ⟨hg, hdbg, hm | ⟨hm, hv, hnn⟩⟩ := hc
          · exact ld_glob (X := X.suite a ((a, oe3) :: (X.pn ++ pins))) S3 hg hm q hdbg
          · exact ld_blt (X := X.suite a ((a, oe3) :: (X.pn ++ pins))) S3 hg hm hv q hnn hdbg
        refine test (LM.here ?_)
        cases b with
        | true =>
          refine codeAny_handlers_suite ?_
          refine HandSPX.lands_againZ fl3 fun h4 fl4 up4 => ?_
          have J4 : Inv X pins σ' H' { s' with heap := h4 } := J.landed nb fl4.1 ((up.trans up3).trans up4) os ag
          obtain ⟨oe4, vs4, he4, hz4, hd4⟩ := fl4.there
          have S4 := J4.suite he4 hd4 na nL nF
          refine wpAny_mono ((hsu h a oe4 cls d (X.pn ++ pins) (zb _ hz4).1 ⟨_, hd4⟩).run [] _ _ H' _ S4 (hyes rfl a na)) (fun f s6 hsp => ?_) (fun _ _ z => False.elim z)
          cases f with
          | next =>
            obtain ⟨σ6, H6, S6, q6⟩ := hsp
            exact ⟨_, _, S6.unsuite ok, q6⟩
          | brk =>
            obtain ⟨σ6, H6, S6, q6⟩ := hsp
            exact ⟨_, _, S6.unsuite ok, q6⟩
          | cont =>
            obtain ⟨σ6, H6, S6, q6⟩ := hsp
            exact ⟨_, _, S6.unsuite ok, q6⟩
          | ret u =>
            obtain ⟨v6, σ6, H6, S6, r6, q6⟩ := hsp
            exact ⟨_, _, _, S6.unsuite ok, r6, q6⟩
        | false =>
          show wpAny _ X.A (handleBy (.ref a) X.env hds2) _ _ _
          exact ih (hno rfl)
      | @consX x c ts b₀ suite np pos' hds2 l2 hc hsu r ih =>
        intro w
        obtain ⟨b, hb1, hyes, hno⟩ := w
        refine wpAny_handleBy_cons (codeAny_handlers_test ?_) (by intro q; cases q)
        have LT : PySem.W.Looks (model X.prog X.w) h3 (typeOf (.ref a)) cls := fun A Q E s k q => wpAny_typeOf_ref (k _ _ he3) (by rw [(zb _ hz3).1.1]; exact q)
        have LM := PySem.W.exm_one (M := model X.prog X.w) (J3.kIn) LT hb1
        have test : ∀ {Q : Value → Shared → Prop} {E : Value → Shared → Prop}, Q c { s' with heap := h3 } → wpAny (model X.prog X.w) (X.A.mark (some (.ref a))) (eval (.Name x np) X.env) Q E { s' with heap := h3 } := fun {Q E} q => by
          obtain ⟨hg, hdbg, hm | ⟨hm, hv, hnn⟩⟩ := hc
          · exact ld_glob (X := X.suite a ((a, oe3) :: (X.pn ++ pins))) S3 hg hm q hdbg
          · exact ld_blt (X := X.suite a ((a, oe3) :: (X.pn ++ pins))) S3 hg hm hv q hnn hdbg
        refine test (LM.here ?_)
        cases b with
        | true =>
          refine codeAny_handlers_suite ?_
          refine HandSPX.lands_againZ fl3 fun h4 fl4 up4 => ?_
          have J4 : Inv X pins σ' H' { s' with heap := h4 } := J.landed nb fl4.1 ((up.trans up3).trans up4) os ag
          obtain ⟨oe4, vs4, he4, hz4, hd4⟩ := fl4.there
          have S4 := J4.suite he4 hd4 na nL nF
          have tkS : L2.Takes (suiteX X a ((a, oe4) :: (X.pn ++ pins))) (farW Wout) := fun u2 s2 x2 => by
            obtain ⟨a2, B2, sI2, pn2, σ2, H2, cls2, d2, e2, I2, nb2, up2, sky2, na2, os2, ag2, w2⟩ := x2
            exact tk.2 u2 s2 ⟨a2, B2, sI2, pins, σ2, H2, cls2, d2, e2, L2H.unsuiteX I2 ok, nb2, up2, sky2, na2, os2, ag2, w2⟩
          refine wpAny_mono ((hsu h a oe4 cls d (X.pn ++ pins) (zb _ hz4) ⟨_, hd4⟩ tkS).run [] _ _ H' _ (L2H.suiteX_of S4) (hyes rfl a na)) (fun f s6 hsp => ?_) (fun e6 s6 z => hpa (some (.ref a)) e6 s6 z)
          cases f with
          | next =>
            obtain ⟨σ6, H6, S6, q6⟩ := hsp
            exact ⟨_, _, L2H.unsuiteX S6 ok, q6⟩
          | brk =>
            obtain ⟨σ6, H6, S6, q6⟩ := hsp
            exact ⟨_, _, L2H.unsuiteX S6 ok, q6⟩
          | cont =>
            obtain ⟨σ6, H6, S6, q6⟩ := hsp
            exact ⟨_, _, L2H.unsuiteX S6 ok, q6⟩
          | ret u =>
            obtain ⟨v6, σ6, H6, S6, r6, q6⟩ := hsp
            exact ⟨_, _, _, L2H.unsuiteX S6 ok, r6, q6⟩
        | false =>
          show wpAny _ X.A (handleBy (.ref a) X.env hds2) _ _ _
          exact ih (hno rfl)
      | @consA x n c i ts b₀ suite np pos' hds2 l2 hN hi hln hc hsu r ih =>
        intro w
        obtain ⟨b, hb1, hyes, hno⟩ := w
        refine wpAny_handleBy_cons (codeAny_handlers_test ?_) (by intro q; cases q)
        have LT : PySem.W.Looks (model X.prog X.w) h3 (typeOf (.ref a)) cls := fun A Q E s k q => wpAny_typeOf_ref (k _ _ he3) (by rw [(zb _ hz3).1.1]; exact q)
        have LM := PySem.W.exm_one (M := model X.prog X.w) (J3.kIn) LT hb1
        have test : ∀ {Q : Value → Shared → Prop} {E : Value → Shared → Prop}, Q c { s' with heap := h3 } → wpAny (model X.prog X.w) (X.A.mark (some (.ref a))) (eval (.Name x np) X.env) Q E { s' with heap := h3 } := fun {Q E} q => by
          obtain ⟨hg, hdbg, hm | ⟨hm, hv, hnn⟩⟩ := hc
          · exact ld_glob (X := X.suite a ((a, oe3) :: (X.pn ++ pins))) S3 hg hm q hdbg
          · exact ld_blt (X := X.suite a ((a, oe3) :: (X.pn ++ pins))) S3 hg hm hv q hnn hdbg
        refine test (LM.here ?_)
        cases b with
        | true =>
          refine codeAny_handlers_suite_as ?_
          refine HandSPX.lands_againZ fl3 fun h4 fl4 up4 => ?_
          have J4 : Inv X pins σ' H' { s' with heap := h4 } := J.landed nb fl4.1 ((up.trans up3).trans up4) os ag
          obtain ⟨oe4, vs4, he4, hz4, hd4⟩ := fl4.there
          have S4 := J4.suite he4 hd4 na nL nF
          refine store_ok (X := X.suite a ((a, oe4) :: (X.pn ++ pins))) (v := .ref a) S4 hN hi (.inl hln) rfl (fun s5 S5 => ?_) (.inr hln)
          have end_ : ∀ {σ6 : L2.St} {H6 : Hp} {s6 : Shared} {Q : Shared → Prop}, Inv (X.suite a ((a, oe4) :: (X.pn ++ pins))) [] σ6 H6 s6 → (∀ s7, Inv X pins (σ6.set i none) H6 s7 → Q s7) →
              wpAny (model X.prog X.w) X.A (do bindName X.env n .none; unbindBehindTheSuite X.env n pos') (fun _ s7 => Q s7) X.xe s6 := fun {σ6 H6 s6 Q} S6 hq => gone_ok (S6.unsuite ok) hN hi hln hq
          refine wpAny_mono ((hsu h a oe4 cls d (X.pn ++ pins) (zb _ hz4).1 ⟨_, hd4⟩).run [] s5 _ H' _ S5 (hyes rfl a na)) (fun f s6 hsp => ?_) (fun _ _ z => False.elim z)
          cases f with
          | next =>
            obtain ⟨σ6, H6, S6, q6⟩ := hsp
            exact end_ S6 fun s7 J7 => ⟨_, _, J7, q6⟩
          | brk =>
            obtain ⟨σ6, H6, S6, q6⟩ := hsp
            exact end_ S6 fun s7 J7 => ⟨_, _, J7, q6⟩
          | cont =>
            obtain ⟨σ6, H6, S6, q6⟩ := hsp
            exact end_ S6 fun s7 J7 => ⟨_, _, J7, q6⟩
          | ret u =>
            obtain ⟨v6, σ6, H6, S6, r6, q6⟩ := hsp
            exact end_ S6 fun s7 J7 => ⟨_, _, _, J7, r6, q6⟩
        | false =>
          show wpAny _ X.A (handleBy (.ref a) X.env hds2) _ _ _
          exact ih (hno rfl)
    exact go hh w
  refine wpAny_Try_except ?_
  refine wpAny_mono ((hb (wManyV X.K Wout D l) (X.pn ++ pins) (fun e s₁ => wpAny (model X.prog X.w) X.A (noteFrame e X.env) (fun _ s₂ => wpAny (model X.prog X.w) X.A (setFlight e none) (fun _ s₃ =>
    wpAny (model X.prog X.w) X.A (handleBy e X.env (h₀ :: hds)) (SP X pins D) X.xe s₃) X.xe s₂) X.xe s₁) ⟨fun u s' xx => ?_, fun u s' xx => ?_⟩ PassesOwn.looking (fun hd => PassesOwnAt.looking)).run [] s σ H D (I.toTry _) h) (fun f s1 hsp => ?_) (fun e s1 he => he)
  · obtain ⟨a, B, sI, pins', σ', H', cls, d, rfl, J', nb, up, sky, na, os, ag, w⟩ := xx
    obtain ⟨n1, w⟩ := wManyV_near w
    exact catch_ true (L2N.Zn cls d) L2N.Zn.steady a B sI s' pins' σ' H' cls d (fun o z => ⟨z.zc, fun _ => z.2.2⟩) n1 (fun _ o z => z) J' nb up sky na os ag w
  · obtain ⟨a, B, sI, pins', σ', H', cls, d, rfl, J', nb, up, sky, na, os, ag, w⟩ := xx
    obtain ⟨n1, w⟩ := wManyV_far w
    exact catch_ false (Zc cls d) Zc.steady1 a B sI s' pins' σ' H' cls d (fun o z => ⟨z, fun q => nomatch q⟩) n1 (fun z => nomatch z) J' nb up sky na os ag w
  · cases f with
    | next =>
      obtain ⟨σ', H', J', q⟩ := hsp
      exact wpAny_execs_nil ⟨σ', H', J'.ofTry ok, q⟩
    | brk =>
      obtain ⟨σ', H', J', q⟩ := hsp
      exact ⟨σ', H', J'.ofTry ok, q⟩
    | cont =>
      obtain ⟨σ', H', J', q⟩ := hsp
      exact ⟨σ', H', J'.ofTry ok, q⟩
    | ret u =>
      obtain ⟨v, σ', H', J', r, q⟩ := hsp
      exact ⟨v, σ', H', J'.ofTry ok, r, q⟩
end
end Vc

namespace Vc
open PySem PySem.Spec PyProof.Rows L2

/-! ### statements -/
structure Bod (X : Cx) (N : List Str) (sc : Scope) (cm : Bool) : Prop extends Fits X N sc where
  w : FitsW X N sc
  stk : X.stack = X.env :: X.outer
  frm : X.env.frame = some X.env.locals
  pas : cm = true → PassesOwn (model X.prog X.w) X.A X.env X.xe
  pat : cm = true → ∀ hd : Option Value, PassesOwnAt (model X.prog X.w) (X.A.mark hd) X.A X.env X.xe
/-- what an exception's class makes of values -/
def MkV0 (X : Cx) (f : Value) (vs : List V) (σ : L2.St) (H : Hp) (Q : XK) : Prop :=
  ∀ (pins : List (Addr × Obj)) (s : Shared) (us : List Value), Inv X pins σ H s → Vals vs us → wpAny (model X.prog X.w) X.A (call f us) (fun u s' => L2N.MkP X pins σ Q u s' ∧ L2H.Six u s') X.xe s
def MkV (X : Cx) (f : Value) (vs : List V) (σ : L2.St) (H : Hp) (Q : XK) : Prop := MkV0 X f vs σ H (nearX Q)
def tRai (X : Cx) (W : WX) (x : Str) (ta : TA) : TS := fun _ σ H => ∃ f, Cal X x f ∧ ta σ H fun vs H1 => MkV X f vs σ H1 fun cls d H' => W cls d σ H'
/-- raise x(..) from None, in an except suite -/
def tRaiN (X : Cx) (W : WX) (x : Str) (ta : TA) : TS := fun _ σ H => L2H.HotC X ∧ ∃ f, Cal X x f ∧ ta σ H fun vs H1 => MkV X f vs σ H1 fun cls d H' => W (far cls) d σ H'
theorem pmk_any {X : Cx} {x : Str} {p pos : Pos} {e : Expr} {es : List Expr} {t : TA} (hg : Gl X x) (hdb : (x == ("__debug__" : Str)) = false) (hn : x ≠ "__name__") (ha : PA X (e :: es) t) (hs : noStar (e :: es) = true) :
    L2H.PMk5 X (.Call (.Name x p) (e :: es) [] pos) (fun σ H Q => ∃ f, Cal X x f ∧ t σ H fun vs H1 => MkV0 X f vs σ H1 Q) := by
  intro pins s σ H Q I h
  obtain ⟨n1, n2⟩ := noStar_cons hs
  obtain ⟨f, cal, h⟩ := h
  have go := thn (ha.run pos pins s σ H _ I h) fun us s1 ⟨vs, H1, I1, r, q⟩ => (⟨I1.kIn, q pins s1 us I1 r⟩ : X.K.In s1.heap ∧ wpAny (model X.prog X.w) X.A (call f us) (fun u s' => L2N.MkP X pins σ Q u s' ∧ L2H.Six u s') X.xe s1)
  refine wpAny_Call_Name_kw ?_
  cases cal with
  | own hm hk => exact ld_glob I hg hm (PySem.W.callWith_K (h₀ := X.base) I.ok.mod.kin hk go (star_hd n1) (star_any n2)) hdb
  | blt hm hv => exact ld_blt I hg hm hv (PyProof.Rows.callWith_builtin1 (thn go fun _ _ z => z.2) (star_hd n1) (star_any n2)) hn hdb
  | typ hm hv => exact ld_blt I hg hm hv (PyProof.Rows.callWith_type1 (thn go fun _ _ z => z.2) (star_hd n1) (star_any n2)) hn hdb
/-- the class that an except clause names -/
def NameV (X : Cx) (x : Str) (c : Value) : Prop := X.mg x = some c ∨ (X.mg x = none ∧ bootBuiltins x = some c)
inductive NamesL (X : Cx) : List Str → List Value → Prop where
  | nil : NamesL X [] []
  | cons {x : Str} {c : Value} {xs : List Str} {cs : List Value} (h : NameV X x c) (t : NamesL X xs cs) : NamesL X (x :: xs) (c :: cs)
/-- the clauses without names: their classes' names, their suites -/
def hdls : List ExceptHandler → Option (List (Str × List Stmt))
  | [] => some []
  | .ExceptHandler (some (.Name x _)) none (b :: su) _ :: r => (match hdls r with
    | some l => some ((x, b :: su) :: l)
    | none => none)
  | _ => none
/-- the clauses, some with names: their classes' names, their slots, their suites -/
def hdlsA (N : List Str) (sc : Scope) : List ExceptHandler → Option (List (Str × Option Nat × List Stmt))
  | [] => some []
  | .ExceptHandler (some (.Name x _)) none (b :: su) _ :: r => (match hdlsA N sc r with
    | some l => some ((x, none, b :: su) :: l)
    | none => none)
  | .ExceptHandler (some (.Name x _)) (some m) (b :: su) _ :: r => (match hdlsA N sc r, slotOf N m with
    | some l, some i => (match kd sc m == 1 with
      | true => some ((x, some i, b :: su) :: l)
      | false => none)
    | _, _ => none)
  | _ => none
def W0 : WX := fun _ _ _ _ => False
def tSuite (X : Cx) (t : Cx → TS) : TSu := fun _ a cls d D σ H => ∀ (oe : Obj) (pn : List (Addr × Obj)), Zc cls d oe → (∃ vs, oe.data = .fields vs) → t (X.suite a ((a, oe) :: pn)) D σ H
/-- a suite that raises -/
def tSuiteX (X : Cx) (t : Cx → TS) : TSu := fun h a cls d D σ H => ∀ (oe : Obj) (pn : List (Addr × Obj)), Zb h cls d oe → (∃ vs, oe.data = .fields vs) → t (suiteX X a ((a, oe) :: pn)) D σ H
def isRaise : Stmt → Bool
  | .Raise .. => true
  | _ => false
def suOf (X : Cx) (W : WX) (b : Bool) (r : Cx → WX → TS) : TSu := match b with
  | true => tSuiteX X fun Y => r Y W
  | false => tSuite X fun Y => r Y W0
def suOfA (X : Cx) (W : WX) (o : Option Nat) (b : Bool) (r : Cx → WX → TS) : TSu := match o with
  | none => suOf X W b r
  | some _ => tSuite X fun Y => r Y W0
def tTryM (X : Cx) (W : WX) (xs : List Str) (sus : List TSu) (tb : Cx → WX → TS) : TS := fun D σ H => ∃ cs : List Value, NamesL X xs cs ∧
  ∀ (pn : List (Addr × Obj)) (xe : Value → Shared → Prop), TakesV (X.tr pn xe) (wManyV X.K W D (cs.zip (sus.map fun s => (none, s)))) → tb (X.tr pn xe) (wManyV X.K W D (cs.zip (sus.map fun s => (none, s)))) D σ H
def tTryN (X : Cx) (W : WX) (xs : List Str) (sus : List (Option Nat × TSu)) (tb : Cx → WX → TS) : TS := fun D σ H => ∃ cs : List Value, NamesL X xs cs ∧
  ∀ (pn : List (Addr × Obj)) (xe : Value → Shared → Prop), TakesV (X.tr pn xe) (wManyV X.K W D (cs.zip sus)) → tb (X.tr pn xe) (wManyV X.K W D (cs.zip sus)) D σ H
def tTryA (X : Cx) (W : WX) (x : Str) (i : Nat) (su : TSu) (tb : Cx → WX → TS) : TS := fun D σ H => ∃ c : Value, NameV X x c ∧
  ∀ (pn : List (Addr × Obj)) (xe : Value → Shared → Prop), TakesV (X.tr pn xe) (wManyV X.K W D [(c, some i, su)]) → tb (X.tr pn xe) (wManyV X.K W D [(c, some i, su)]) D σ H
/-- a for, perhaps with the dict that it walks locked -/
def tForO (ti : TI) (g : TG) (tb : TS) : TS := fun D σ H => tFor ti g tb D σ H ∨ tLock (tFor ti g tb) D σ H
theorem ps_forO {X : Cx} {st : Stmt} {ti : TI} {g : TG} {tb : TS} (h : PS X st (tFor ti g tb)) : PS X st (tForO ti g tb) := ⟨fun pins s σ H D I hw => hw.elim (h.run pins s σ H D I) ((ps_lock h).run pins s σ H D I)⟩
def tIfS' (b : Bool) (t : TS) : TS := match b with
  | true => t
  | false => tNever
theorem ifS {X : Cx} {st : Stmt} {b : Bool} {t : TS} (h : b = true → PS X st t) : PS X st (tIfS' b t) := by
  cases b with
  | true => exact h rfl
  | false => exact ps_never
def rdSs (r : Stmt → TS) : List Stmt → TS
  | [] => tNext
  | [s] => r s
  | s :: s2 :: rest => tSeq (r s) (rdSs r (s2 :: rest))
theorem rdSs_ok {X : Cx} {r : Stmt → TS} (h : ∀ s, PS X s (r s)) : ∀ {l : List Stmt}, PSs X l (rdSs r l)
  | [] => pss_nil
  | [s] => pss_one (h s)
  | s :: s2 :: rest => pss_cons (h s) (rdSs_ok h (l := s2 :: rest))
def sBy (o : Option Nat) (f : Nat → TS) : TS := match o with
  | some i => f i
  | none => tNever
/-- match: case a value, case _ -/
def tCases (X : Cx) (x : V) : List (Option TE × TS) → TS
  | [] => tNext
  | (none, t) :: _ => t
  | (some te, t) :: r => fun D σ H => te σ H fun y H1 => O2 X (compareOp .Eq) x y σ H1 fun z H2 => Tr X z σ H2 fun b H3 => if b = true then t D σ H3 else tCases X x r D σ H3
def tMat (X : Cx) (te : TE) (cs : List (Option TE × TS)) : TS := fun D σ H => te σ H fun x H1 => tCases X x cs D σ H1
def mcs : List MatchCase → Option (List (Option Expr × List Stmt))
  | [] => some []
  | ⟨.MatchValue v _, none, b⟩ :: r => (match mcs r with
    | some l => some ((some v, b) :: l)
    | none => none)
  | ⟨.MatchAs none none _, none, b⟩ :: r => (match mcs r with
    | some l => some ((none, b) :: l)
    | none => none)
  | _ => none
theorem cases_ok {X : Cx} {r : Expr → TE} {rs : List Stmt → TS} (hE : ∀ e, PE X e (r e)) (hS : ∀ l, PSs X l (rs l)) : ∀ {cs : List MatchCase} {l : List (Option Expr × List Stmt)}, mcs cs = some l →
    ∀ (first : Bool) (pins : List (Addr × Obj)) (s : Shared) (σ : L2.St) (H : Hp) (D : Ends) (x : V) (v : Value), Inv X pins σ H s → RelV x v → tCases X x (l.map fun q => (q.1.map r, rs q.2)) D σ H →
      wpAny (model X.prog X.w) X.A (matchCases cs X.env v first) (SP X pins D) X.xe s
  | [], l, e, first, pins, s, σ, H, D, x, v, I, rx, h => by
    have e1 : l = [] := by
      unfold mcs at e
      exact (Option.some.inj e).symm
    subst e1
    exact wpAny_matchCases_nil ⟨σ, H, I, h⟩
  | c :: cs, l, e, first, pins, s, σ, H, D, x, v, I, rx, h => by
    unfold mcs at e
    split at e
    · rename_i q; cases q
    · rename_i ve vp b rest q
      obtain ⟨rfl, rfl⟩ := List.cons.inj q
      split at e
      · rename_i l2 e2
        cases e
        refine wpAny_matchCases_cons (wpAny_matchPattern_Value (thn ((hE ve).run pins s σ H _ I h) fun u s1 ⟨y, H1, I1, ry, q1⟩ => thn (q1 pins s1 v u I1 rx ry) fun zv s2 ⟨z, H2, I2, rz, q2⟩ => thn (q2 pins s2 zv I2 rz) fun bb s3 h3 => ?_))
        obtain ⟨H3, I3, q3⟩ := h3
        cases bb with
        | true => exact wpAny_assignInOrder_none ((hS b).run pins s3 σ H3 D I3 q3)
        | false => exact cases_ok hE hS e2 false pins s3 σ H3 D x v I3 rx q3
      · cases e
    · rename_i vp b rest q
      obtain ⟨rfl, rfl⟩ := List.cons.inj q
      split at e
      · rename_i l2 e2
        cases e
        exact wpAny_matchCases_cons (wpAny_matchPattern_Capture (wpAny_assignInOrder_none ((hS b).run pins s σ H D I h)))
      · cases e
    · cases e
def okG (x : Str) (sc : Scope) : Bool := okName x && kd sc x == 4
def rdS (N : List Str) (sc : Scope) : Nat → Cx → WX → Bool → Stmt → TS
  | 0, _, _, _, _ => tNever
  | n + 1, X, W, cm, st => match st with
    | .Pass _ => tNext
    | .Break _ => tBreak
    | .Continue _ => tCont
    | .Expr (.Constant (.str _) _ _) _ => tNext
    | .Expr e _ => tIfS' (!isComp e) (tDrop (rdE X N sc n e))
    | .Return none _ => tRetN
    | .Return (some e) _ => tRet (rdE X N sc n e)
    | .If c a b _ => tIfS (rdT X N sc n c) (rdSs (rdS N sc n X W cm) a) (rdSs (rdS N sc n X W cm) b)
    | .Assign [.Name x px] (.ListComp elt gens scope p) _ => (match kd sc x == 2 with
      | true => tAsg (rdE X N sc n (.ListComp elt gens scope p)) (gOf N sc x)
      | false => tIfS' (sc.kind == .function && lcSw sc scope x px p) (sBy (slotOf N x) fun i => tAsg (rdE X N sc n (.ListComp elt gens scope p)) (gName i)))
    | .Assign [.Name x _] e _ => tIfS' (!isComp e) (tAsg (rdE X N sc n e) (gOf N sc x))
    | .Assign [.Attribute o f _] e _ => sAtr X f (rdE X N sc n o) (rdE X N sc n e)
    | .Assign [.Subscript o i p] e _ => tIfS' (!isComp e) (tAsg (rdE X N sc n e) (rdG X N sc cm (rdE X N sc n) n (.Subscript o i p)))
    | .Assign [.Tuple [.Name x px, .Name y py] kt pt] (.Tuple [a, b] k2 p2) _ =>
      (match apartIn sc [.Name x px, .Name y py] [a, b] with
      | true => tAsg (rdE X N sc n (.Tuple [a, b] k2 p2)) (rdG X N sc cm (rdE X N sc n) n (.Tuple [.Name x px, .Name y py] kt pt))
      | false => tIfS' (cm && (sc.kind == .function && swOk sc x y px py a b)) (sBy (slotOf N x) fun i => sBy (slotOf N y) fun j => tPar i j (rdA (rdE X N sc n) [a, b])))
    | .Assign [.Tuple [.Name x px, .Name y py, .Name z pz] kt pt] (.Tuple [a, b, c] k2 p2) _ =>
      (match apartIn sc [.Name x px, .Name y py, .Name z pz] [a, b, c] with
      | true => tAsg (rdE X N sc n (.Tuple [a, b, c] k2 p2)) (rdG X N sc cm (rdE X N sc n) n (.Tuple [.Name x px, .Name y py, .Name z pz] kt pt))
      | false => tIfS' (cm && (sc.kind == .function && swOk3 sc x y z px py pz a b c)) (sBy (slotOf N x) fun i => sBy (slotOf N y) fun j => sBy (slotOf N z) fun l => tPar3 i j l (rdA (rdE X N sc n) [a, b, c])))
    | .Assign [.Tuple es k p] e _ => tIfS' (!isComp e && (match e with | .Tuple _ _ _ => es.length == 4 || cellIn sc es | _ => true)) (tAsg (rdE X N sc n e) (rdG X N sc cm (rdE X N sc n) n (.Tuple es k p)))
    | .AugAssign (.Name x _) op e _ => tIfS' (kd sc x == 1) (sBy (slotOf N x) fun i => sAug X op i (rdE X N sc n e))
    | .AugAssign (.Subscript o i _) op e _ => tIfS' (!isSlice i) (sAugS X op (rdE X N sc n o) (rdE X N sc n i) (rdE X N sc n e))
    | .For tg it body [] _ => tIfS' (cm && !isSetE it) (tForO (rdI X sc (rdE X N sc n) tg it) (rdG X N sc cm (rdE X N sc n) n tg) (rdSs (rdS N sc n X W cm) body))
    | .While c body [] _ => tIfS' cm (tWhile (rdT X N sc n c) (rdSs (rdS N sc n X W cm) body))
    | .Match e cs _ => (match mcs cs with
      | some l => tMat X (rdE X N sc n e) (l.map fun q => (q.1.map (rdE X N sc n), rdSs (rdS N sc n X W cm) q.2))
      | none => tNever)
    | .Raise (some (.Call (.Name x _) (e :: es) [] _)) none _ => tIfS' (cm && (okG x sc && noStar (e :: es))) (tRai X W x (rdA (rdE X N sc n) (e :: es)))
    | .Raise (some (.Call (.Name x _) (e :: es) [] _)) (some (.Constant .none _ _)) _ => tIfS' (!cm && (okG x sc && noStar (e :: es))) (tRaiN X W x (rdA (rdE X N sc n) (e :: es)))
    | .Try body [.ExceptHandler (some (.Name x _)) (some m) (b :: su) _] [] [] _ =>
      tIfS' (cm && (okG x sc && kd sc m == 1)) (sBy (slotOf N m) fun i => tTryA X W x i (tSuite X fun Y => rdSs (rdS N sc n Y W0 false) (b :: su)) fun Y V => rdSs (rdS N sc n Y V true) body)
    | .Try body (h0 :: hs) [] [] _ => (match hdls (h0 :: hs) with
      | some l => tIfS' (cm && l.all fun q => okG q.1 sc) (tTryM X W (l.map (·.1)) (l.map fun q => suOf X W (q.2.any isRaise) fun Y V => rdSs (rdS N sc n Y V false) q.2) fun Y V => rdSs (rdS N sc n Y V true) body)
      | none => (match hdlsA N sc (h0 :: hs) with
        | some l => tIfS' (cm && l.all fun q => okG q.1 sc) (tTryN X W (l.map (·.1)) (l.map fun q => (q.2.1, suOfA X W q.2.1 (q.2.2.any isRaise) fun Y V => rdSs (rdS N sc n Y V false) q.2.2)) fun Y V => rdSs (rdS N sc n Y V true) body)
        | none => tNever))
    | _ => tNever
section
variable {N : List Str} {sc : Scope}
theorem Bod.tr {X : Cx} {cm : Bool} (B : Bod X N sc cm) {pn : List (Addr × Obj)} {xe : Value → Shared → Prop} (h : PassesOwn (model X.prog X.w) X.A X.env xe) (h2 : ∀ hd : Option Value, PassesOwnAt (model X.prog X.w) (X.A.mark hd) X.A X.env xe) : Bod (X.tr pn xe) N sc true := ⟨⟨B.n, B.s, B.nd⟩, ⟨B.w.n, B.w.nd, B.w.loc, B.w.fn, B.w.lo⟩, B.stk, B.frm, fun _ => h, fun _ => h2⟩
theorem Bod.suite {X : Cx} {cm : Bool} (B : Bod X N sc cm) {a : Addr} {pn : List (Addr × Obj)} : Bod (X.suite a pn) N sc false := ⟨⟨B.n, B.s, B.nd⟩, ⟨B.w.n, B.w.nd, B.w.loc, B.w.fn, B.w.lo⟩, B.stk, B.frm, (fun z => nomatch z), fun z => nomatch z⟩
theorem Bod.suiteX {X : Cx} {cm : Bool} (B : Bod X N sc cm) {a : Addr} {pn : List (Addr × Obj)} : Bod (Vc.suiteX X a pn) N sc false := ⟨⟨B.n, B.s, B.nd⟩, ⟨B.w.n, B.w.nd, B.w.loc, B.w.fn, B.w.lo⟩, B.stk, B.frm, (fun z => nomatch z), fun z => nomatch z⟩
theorem names_of {X : Cx} (F : Fits X N sc) {x : Str} {c : Value} (h : okG x sc = true) (v : NameV X x c) : Names X x c := by
  unfold okG at h
  simp only [Bool.and_eq_true, beq_iff_eq] at h
  obtain ⟨h1, h2, h3⟩ := okName_ok h.1
  refine ⟨gl_of F h.2, h1, ?_⟩
  rcases v with v | ⟨v1, v2⟩
  · exact .inl v
  · exact .inr ⟨v1, v2, h3⟩
theorem kd_loc1 {m : Str} (h : kd sc m = 1) : sc.names.lookup m = some .local := by
  unfold kd at h
  split at h <;> simp_all
/-- what is known of the clauses' suites -/
structure Sus (X : Cx) (W : WX) (r : List Stmt → Cx → WX → TS) : Prop where
  s : ∀ (su : List Stmt) (a : Addr) (oe : Obj) (pn : List (Addr × Obj)), PSs (X.suite a ((a, oe) :: pn)) su (r su (X.suite a ((a, oe) :: pn)) W0)
  x : ∀ (su : List Stmt) (a : Addr) (oe : Obj) (pn : List (Addr × Obj)), L2.Takes (suiteX X a ((a, oe) :: pn)) (farW W) → PSs (suiteX X a ((a, oe) :: pn)) su (r su (suiteX X a ((a, oe) :: pn)) W)
theorem su_ok {X : Cx} {W : WX} {r : List Stmt → Cx → WX → TS} (S : Sus X W r) {x : Str} {c : Value} {b₀ : Stmt} {suite : List Stmt} {np pos' : Pos} {hds : List ExceptHandler} {l : List (Value × Option Nat × TSu)} (hc : Names X x c) (b : Bool) (t : HdsOkV X W hds l) :
    HdsOkV X W (.ExceptHandler (some (.Name x np)) none (b₀ :: suite) pos' :: hds) ((c, none, suOf X W b (r (b₀ :: suite))) :: l) := by
  cases b with
  | false => exact .cons hc (fun h a oe cls d pn hz hf => ⟨fun pins s σ H D I hw => (S.s (b₀ :: suite) a oe pn).run pins s σ H D I (hw oe pn hz hf)⟩) t
  | true => exact .consX hc (fun h a oe cls d pn hz hf tk => ⟨fun pins s σ H D I hw => (S.x (b₀ :: suite) a oe pn tk).run pins s σ H D I (hw oe pn hz hf)⟩) t
theorem hds_ok {X : Cx} {W : WX} (F : Fits X N sc) {r : List Stmt → Cx → WX → TS} (S : Sus X W r) :
    ∀ {hs : List ExceptHandler} {l : List (Str × List Stmt)} {cs : List Value}, hdls hs = some l → (l.all fun q => okG q.1 sc) = true → NamesL X (l.map (·.1)) cs → HdsOkV X W hs (cs.zip ((l.map fun q => suOf X W (q.2.any isRaise) (r q.2)).map fun s => (none, s)))
  | [], l, cs, e, _, nm => by
    have e1 : l = [] := by
      unfold hdls at e
      exact (Option.some.inj e).symm
    subst e1
    cases nm
    exact .nil
  | h0 :: hs, l, cs, e, ok, nm => by
    unfold hdls at e
    split at e
    · rename_i q
      cases q
    · rename_i x np b su p' r' hh
      obtain ⟨rfl, rfl⟩ := List.cons.inj hh
      split at e
      · rename_i l2 e2
        cases e
        rw [List.all_cons, Bool.and_eq_true] at ok
        cases nm with
        | cons h t =>
          exact su_ok S (names_of F ok.1 h) _ (hds_ok F S e2 ok.2 t)
      · cases e
    · cases e
theorem hdsA_ok {X : Cx} {W : WX} (F : Fits X N sc) (hnd : X.N.Nodup) (hsc : X.env.scope = sc) {r : List Stmt → Cx → WX → TS} (S : Sus X W r) :
    ∀ {hs : List ExceptHandler} {l : List (Str × Option Nat × List Stmt)} {cs : List Value}, hdlsA N sc hs = some l → (l.all fun q => okG q.1 sc) = true → NamesL X (l.map (·.1)) cs → HdsOkV X W hs (cs.zip (l.map fun q => (q.2.1, suOfA X W q.2.1 (q.2.2.any isRaise) (r q.2.2))))
  | [], l, cs, e, _, nm => by
    have e1 : l = [] := by
      unfold hdlsA at e
      exact (Option.some.inj e).symm
    subst e1
    cases nm
    exact .nil
  | h0 :: hs, l, cs, e, ok, nm => by
    unfold hdlsA at e
    split at e
    · rename_i q
      cases q
    · rename_i x np b su p' r' hh
      obtain ⟨rfl, rfl⟩ := List.cons.inj hh
      split at e
      · rename_i l2 e2
        cases e
        rw [List.all_cons, Bool.and_eq_true] at ok
        cases nm with
        | cons h t =>
          exact su_ok S (names_of F ok.1 h) _ (hdsA_ok F hnd hsc S e2 ok.2 t)
      · cases e
    · rename_i x np m b su p' r' hh
      obtain ⟨rfl, rfl⟩ := List.cons.inj hh
      split at e
      · rename_i l2 i e2 ei
        split at e
        · rename_i hk
          cases e
          rw [List.all_cons, Bool.and_eq_true] at ok
          have km : X.env.kindOf m = some .local := by
            show X.env.scope.names.lookup m = _
            rw [hsc]
            exact kd_loc1 (beq_iff_eq.mp hk)
          cases nm with
          | cons h t =>
            exact .consA hnd (by rw [F.n]; exact slotOf_ok ei) km (names_of F ok.1 h) (fun hh a oe cls d pn hz hf => ⟨fun pins s σ H D I hw => (S.s (b :: su) a oe pn).run pins s σ H D I (hw oe pn hz hf)⟩) (hdsA_ok F hnd hsc S e2 ok.2 t)
        · cases e
      · cases e
    · cases e
theorem kd_cell2 {sc : Scope} {x : Str} (h : kd sc x = 2) : sc.names.lookup x = some .cell := by
  unfold kd at h
  split at h <;> simp_all
theorem sw_cell {elt : Expr} {gs : List Comprehension} {scope : Scope} {pos py : Pos} {y : Str} {l : Nat} {env : Env} (hy : env.scope.names.lookup y = some .cell) : swapsWithSole [.Name y py] (.ListComp elt gs scope pos) l env = pure false := by
  unfold swapsWithSole swapsWith
  have e : env.kindOf y = some .cell := hy
  simp only [e]
  have e2 : ((some NameKind.cell : Option NameKind) == some .local) = false := by decide
  rw [e2, Bool.and_false]
  rfl
theorem asg_eq {X : Cx} {tg e : Expr} {te : TE} {g : TG} {pos : Pos} (he : PE X e te) (hg : PG X tg g) (hs : isComp e = false) (h1 : isStar tg = false) (hw : swappedStores [tg] e X.env = pure none) : PS X (.Assign [tg] e pos) (tAsg te g) :=
  ps_asg he hg (swaps_no hs) hw (by rw [each_hd h1] <;> rfl)
theorem ps_augN {X : Cx} {i : Nat} {x : Str} {e : Expr} {te : TE} {op : Operator} {p pos : Pos} (hN : X.N.Nodup) (hi : X.N[i]? = some x) (hx : X.env.scope.names.lookup x = some .local) (he : PE X e te) : PS X (.AugAssign (.Name x p) op e pos) (sAug X op i te) := by
  refine ⟨fun pins s σ H D I h => ?_⟩
  obtain ⟨v, e1, h⟩ := h
  obtain ⟨m, hn, hl⟩ := I.loc
  obtain ⟨u, r, l⟩ := hl i x v hi e1 (.inl hx)
  refine wpAny_AugAssign_Name ?_
  rcases l with ⟨hk, hm⟩ | ⟨hk, _⟩
  · refine wpAny_loadName_local I.ok.kind hk hn hm (thn (he.run pins s σ H _ I h) fun w s1 ⟨y, H1, I1, r1, q1⟩ => ?_)
    refine thn (q1 pins s1 u w I1 r r1) fun z s2 ⟨zv, H2, I2, r2, q2⟩ => ?_
    exact store_ok I2 hN hi (.inl hx) r2 (fun s3 I3 => ⟨_, H2, I3, q2⟩) (.inr hx)
  · have hx' : X.env.kindOf x = some .local := hx
    rw [hx'] at hk
    rcases hk with hk | hk <;> cases hk
theorem rdS_ok : ∀ (n : Nat) {X : Cx} {W : WX} {cm : Bool}, Bod X N sc cm → (cm = true → X.calm = true) → (cm = true → TakesV X W) → L2.Takes X (farW W) → ∀ st, PS X st (rdS N sc n X W cm st)
  | 0, X, W, cm, _, _, _, _, st => by
    unfold rdS
    exact ps_never
  | n + 1, X, W, cm, B, hc, tk, tkF, st => by
    have hE : ∀ e, PE X e (rdE X N sc n e) := (rd_ok n B.toFits).1
    have hT : ∀ e, PT X e (rdT X N sc n e) := (rd_ok n B.toFits).2
    have hS : ∀ {l : List Stmt}, PSs X l (rdSs (rdS N sc n X W cm) l) := rdSs_ok (rdS_ok n B hc tk tkF)
    have hSu : Sus X W (fun su Y V => rdSs (rdS N sc n Y V false) su) :=
      ⟨fun su a oe pn => rdSs_ok (rdS_ok n (W := W0) (cm := false) B.suite (fun z => absurd z (by decide)) (fun z => absurd z (by decide)) takesF0), fun su a oe pn tk2 => rdSs_ok (rdS_ok n (W := W) (cm := false) B.suiteX (fun z => absurd z (by decide)) (fun z => absurd z (by decide)) tk2)⟩
    unfold rdS
    split
    · exact ps_pass
    · exact ps_break
    · exact ps_continue
    · exact ps_doc
    · exact ifS fun h => ps_expr (hE _) (swaps_no (by simpa using h))
    · exact ps_retN
    · exact ps_ret (hE _)
    · exact ps_if (hT _) hS hS
    · split
      · rename_i hk2
        exact ps_asg (hE _) (gOf_ok B.w) (sw_cell (by rw [B.s]; exact kd_cell2 (beq_iff_eq.mp hk2))) rfl (by rw [each_hd rfl] <;> rfl)
      · refine ifS fun h => ?_
        simp only [Bool.and_eq_true, beq_iff_eq] at h
        unfold sBy
        split
        · rename_i i ei
          exact setLc_ok B.toFits h.1 n ei h.2
        · exact ps_never
    · refine ifS fun h => asg_eq (hE _) (gOf_ok B.w) (by simpa using h) rfl ?_
      rename_i e _ _
      cases e <;> rfl
    · exact ps_atr (hE _) (hE _)
    · refine ifS fun h => asg_eq (hE _) (rdG_ok B.w hc hE n _) (by simpa using h) rfl ?_
      rename_i e _ _
      cases e <;> rfl
    · rename_i x px y py kt pt a b k2 p2 pos
      split
      · rename_i ha
        exact asg_eq (hE _) (rdG_ok B.w hc hE n _) rfl rfl (sw_apart B.s ha)
      · refine ifS fun h => ?_
        simp only [Bool.and_eq_true, beq_iff_eq] at h
        obtain ⟨h1, h2, h3⟩ := h
        have h3' := h3
        unfold swOk at h3'
        simp only [Bool.and_eq_true, beq_iff_eq, Bool.not_eq_true'] at h3'
        obtain ⟨⟨x1, x2⟩, ⟨x3, x4⟩, ⟨x5, x6⟩, _⟩ := h3'
        unfold sBy
        split
        · rename_i i ei
          split
          · rename_i j ej
            have nij : i ≠ j := fun e => by
              have q1 := slotOf_ok ei
              have q2 := slotOf_ok ej
              rw [e, q2] at q1
              have q3 := Option.some.inj q1
              rw [q3] at x4
              simp at x4
            exact ps_par (hc h1) (by rw [B.n]; exact B.nd) (by rw [B.n]; exact slotOf_ok ei) (by rw [B.n]; exact slotOf_ok ej) nij (by rw [B.s]; exact x1) (by rw [B.s]; exact x2)
              (rdA_ok hE (by show (!isStar a && (!isStar b && true)) = true; rw [x5, x6] <;> rfl)) (sw_ok B.s (by rw [B.s]; exact h2) h3) (by rfl)
          · exact ps_never
        · exact ps_never
    · rename_i x px y py z pz kt pt a b c k2 p2 pos
      split
      · rename_i ha
        exact asg_eq (hE _) (rdG_ok B.w hc hE n _) rfl rfl (sw_apart B.s ha)
      · refine ifS fun h => ?_
        simp only [Bool.and_eq_true, beq_iff_eq] at h
        obtain ⟨h1, h2, h3⟩ := h
        have h3' := h3
        unfold swOk3 at h3'
        simp only [Bool.and_eq_true, beq_iff_eq, Bool.not_eq_true'] at h3'
        obtain ⟨⟨x1, x2, x2'⟩, ⟨_, x4, x4', x4''⟩, ⟨x5, x6, x6'⟩, _⟩ := h3'
        unfold sBy
        split
        · rename_i i ei
          split
          · rename_i j ej
            split
            · rename_i l el
              have dist : ∀ {i j : Nat} {x y : Str}, slotOf N x = some i → slotOf N y = some j → (y == x) = false → i ≠ j := fun ei ej q e => by
                have q1 := slotOf_ok ei
                have q2 := slotOf_ok ej
                rw [e, q2] at q1
                have q3 := Option.some.inj q1
                rw [q3] at q
                simp at q
              exact ps_par3 (hc h1) (by rw [B.n]; exact B.nd) (by rw [B.n]; exact slotOf_ok ei) (by rw [B.n]; exact slotOf_ok ej) (by rw [B.n]; exact slotOf_ok el) (dist ei ej x4) (dist ei el x4') (dist ej el x4'') (by rw [B.s]; exact x1) (by rw [B.s]; exact x2) (by rw [B.s]; exact x2')
                (rdA_ok hE (by show (!isStar a && (!isStar b && (!isStar c && true))) = true; rw [x5, x6, x6'] <;> rfl)) (sw_ok3 B.s (by rw [B.s]; exact h2) h3) (by rfl)
            · exact ps_never
          · exact ps_never
        · exact ps_never
    · refine ifS fun h => ?_
      simp only [Bool.and_eq_true, Bool.not_eq_true'] at h
      rename_i es k p e pos hne hne3
      refine asg_eq (hE _) (rdG_ok B.w hc hE n _) h.1 rfl ?_
      cases e with
      | Tuple vs k2 p2 =>
        rcases Bool.or_eq_true_iff.mp h.2 with h4 | h4
        · have h4 : es.length = 4 := beq_iff_eq.mp h4
          unfold swappedStores
          dsimp only
          rw [if_pos (by rw [h4]; rfl)]
        · exact sw_none B.s h4
      | _ => rfl
    · refine ifS fun h => ?_
      rename_i x p op e pos
      unfold sBy
      split
      · rename_i i ei
        have k1 : kd sc x = 1 := beq_iff_eq.mp h
        exact ps_augN (by rw [B.n]; exact B.nd) (by rw [B.n]; exact slotOf_ok ei) (by rw [B.s]; exact kd1 k1) (hE _)
      · exact ps_never
    · exact ifS fun h => ps_augI (by simpa using h) (hE _) (hE _) (hE _)
    · refine ifS fun h => ?_
      simp only [Bool.and_eq_true, Bool.not_eq_true'] at h
      rename_i tg it body pos
      exact ps_forO (ps_for (B.pas h.1) (hc h.1) (rdI_ok B.toFits hE) (rdG_ok B.w hc hE n _) hS (fun x => by cases it <;> first | rfl | cases h.2))
    · exact ifS fun h => ps_while (B.pas h) (hT _) hS
    · split
      · rename_i l hl
        exact ⟨fun pins s σ H D I hw => wpAny_Match (thn ((hE _).run pins s σ H _ I hw) fun v s1 ⟨x, H1, I1, rx, q1⟩ => cases_ok hE (fun l => hS) hl true pins s1 σ H1 D x v I1 rx q1)⟩
      · exact ps_never
    · refine ifS fun h => ?_
      simp only [okG, Bool.and_eq_true, beq_iff_eq] at h
      obtain ⟨h1, h2, h3⟩ := okName_ok h.2.1.1
      exact L2N.ps_raise (hc h.1) (tk h.1).1 (pmk_any (gl_of B.toFits h.2.1.2) h1 h3 (rdA_ok hE h.2.2) h.2.2).pmk
    · refine ifS fun h => ?_
      simp only [okG, Bool.and_eq_true, beq_iff_eq, Bool.not_eq_true'] at h
      obtain ⟨h1, h2, h3⟩ := okName_ok h.2.1.1
      refine ⟨fun pins s σ H D I hw => ?_⟩
      refine (L2H.ps_raiseHN hw.1 tkF (pmk_any (gl_of B.toFits h.2.1.2) h1 h3 (rdA_ok hE h.2.2) h.2.2)).run pins s σ H D I ?_
      exact hw.2
    · refine ifS fun h => ?_
      simp only [Bool.and_eq_true, beq_iff_eq] at h
      rename_i body x np m b su p' pos
      unfold sBy
      split
      · rename_i i ei
        refine ⟨fun pins s σ H D I hw => ?_⟩
        obtain ⟨c, nv, hw⟩ := hw
        have km : X.env.kindOf m = some .local := by
          show X.env.scope.names.lookup m = _
          rw [B.s]
          have z := h.2.2
          unfold kd at z
          split at z <;> simp_all
        exact (ps_tryV (tb := fun V D σ H => ∀ (pn : List (Addr × Obj)) (xe : Value → Shared → Prop), TakesV (X.tr pn xe) V → rdSs (rdS N sc n (X.tr pn xe) V true) body D σ H) B.stk B.frm (B.pat h.1) (tk h.1)
          (fun V pn xe tk2 po pa => ⟨fun pins s σ H D I hw => (rdSs_ok (rdS_ok n (B.tr po pa) (fun _ => hc h.1) (fun _ => tk2) tk2.2)).run pins s σ H D I (hw pn xe tk2)⟩)
          (.consA (by rw [B.n]; exact B.nd) (by rw [B.n]; exact slotOf_ok ei) km (names_of B.toFits h.2.1 nv) (fun hh a oe cls d pn hz hf => ⟨fun pins s σ H D I hw => (hSu.s (b :: su) a oe pn).run pins s σ H D I (hw oe pn hz hf)⟩) .nil)).run pins s σ H D I hw
      · exact ps_never
    · split
      · rename_i l el
        refine ifS fun h => ?_
        rw [Bool.and_eq_true] at h
        refine ⟨fun pins s σ H D I hw => ?_⟩
        obtain ⟨cs, nm, hw⟩ := hw
        exact (ps_tryV (tb := fun V D σ H => ∀ (pn : List (Addr × Obj)) (xe : Value → Shared → Prop), TakesV (X.tr pn xe) V → rdSs (rdS N sc n (X.tr pn xe) V true) _ D σ H) B.stk B.frm (B.pat h.1) (tk h.1)
          (fun V pn xe tk2 po pa => ⟨fun pins s σ H D I hw => (rdSs_ok (rdS_ok n (B.tr po pa) (fun _ => hc h.1) (fun _ => tk2) tk2.2)).run pins s σ H D I (hw pn xe tk2)⟩)
          (hds_ok B.toFits hSu el h.2 nm)).run pins s σ H D I hw
      · split
        · rename_i l el
          refine ifS fun h => ?_
          rw [Bool.and_eq_true] at h
          refine ⟨fun pins s σ H D I hw => ?_⟩
          obtain ⟨cs, nm, hw⟩ := hw
          exact (ps_tryV (tb := fun V D σ H => ∀ (pn : List (Addr × Obj)) (xe : Value → Shared → Prop), TakesV (X.tr pn xe) V → rdSs (rdS N sc n (X.tr pn xe) V true) _ D σ H) B.stk B.frm (B.pat h.1) (tk h.1)
            (fun V pn xe tk2 po pa => ⟨fun pins s σ H D I hw => (rdSs_ok (rdS_ok n (B.tr po pa) (fun _ => hc h.1) (fun _ => tk2) tk2.2)).run pins s σ H D I (hw pn xe tk2)⟩)
            (hdsA_ok B.toFits (by rw [B.n]; exact B.nd) B.s hSu el h.2 nm)).run pins s σ H D I hw
        · exact ps_never
    · exact ps_never
end
end Vc

namespace Vc
open PySem PySem.Spec PyProof.Rows L2

/-! ### the context of a body, as the proofs of readings see it -/
structure Ctx (P : Program) (w : World) (K : PySem.W.Frag) (mg : Str → Option Value) (base : Heap) (k : Nat) (X : Cx) (W : WX) : Prop where
  p : X.prog = P
  w : X.w = w
  K : X.K = K
  m : X.mg = mg
  b : X.base = base
  r : Room k X.A
  t : TakesV X W
  c : X.calm = true
section
variable {P : Program} {w : World} {K : PySem.W.Frag} {mg : Str → Option Value} {base : Heap} {k j : Nat} {X : Cx} {W : WX}
theorem Ctx.tr (C : Ctx P w K mg base k X W) {pn : List (Addr × Obj)} {xe : Value → Shared → Prop} {V : WX} (t : TakesV (X.tr pn xe) V) : Ctx P w K mg base k (X.tr pn xe) V := ⟨C.p, C.w, C.K, C.m, C.b, C.r, t, C.c⟩
theorem Ctx.mono (C : Ctx P w K mg base k X W) (h : j ≤ k) : Ctx P w K mg base j X W := ⟨C.p, C.w, C.K, C.m, C.b, C.r.mono h, C.t, C.c⟩
/-- a def of the text: what it promises -/
def FnS (P : Program) (w : World) (K : PySem.W.Frag) (mg : Str → Option Value) (base : Heap) (f : Addr) (k : Nat) (ps : List Str) (sp : Sp) : Prop :=
  ∃ fd, FnOk P w K mg base (CXV P w) k f fd ps sp ∧ Binds K fd ps []
theorem FnS.mono {f : Addr} {ps : List Str} {sp : Sp} (F : FnS P w K mg base f j ps sp) (h : j ≤ k) : FnS P w K mg base f k ps sp :=
  let ⟨fd, F1, b⟩ := F
  ⟨fd, F1.mono h, b⟩
theorem okV {x qual : Str} {st : Stmt} {f : Addr} {fd : FuncData} {N ps : List Str} {k : Nat} {sp : Sp} (F : Fun K x qual st f fd) (S : FnScope N ps (defScope st)) (len : ∀ vs H Q E, sp vs H Q E → vs.length = ps.length)
    (hbody : ∀ (cdv : Value) (A : Around) (outer : List Env) (s : Shared) (H : Hp) (vs : List V) (Q : VK) (E : XK), Room k (A.deeper (envOfC qual (defScope st) s.heap.objs.size f cdv)) → sp vs H Q E →
      ∃ t, PSs (cxOf (CXV P w) P w K mg base N qual (defScope st) f cdv A outer s H E) (defBody st) t ∧ t { nx := fun _ H' => Q .non H', rt := Q } (start N vs) H) : FnOk P w K mg base (CXV P w) (k + 1) f fd ps sp := by
  obtain ⟨oc, od, kV, doc, pm, an, cdv, ct, osl, rfl, lk, hcd⟩ := F.ex
  exact fn_of lk hcd S len fun A outer s H vs Q E hr hsp => hbody cdv A outer s H vs Q E hr hsp
/-- THE RULE for a def -/
theorem fn_ok {x qual : Str} {st : Stmt} {f : Addr} {fd : FuncData} {N ps : List Str} {sp : Sp} (F : Fun K x qual st f fd) (S : FnScope N ps (defScope st))
    (bn : ∀ (kV doc pm : Value) (an : Option Addr) (cdv ct : Value) (us : List Value), us.length = ps.length → bindArgs (PySem.W.fnOf x qual (defArgs st) (defBody st) (defScope st) .none kV doc pm an cdv ct) ⟨us, []⟩ = pure (ps.zip us))
    (len : ∀ vs H Q E, sp vs H Q E → vs.length = ps.length) (rd : Cx → WX → TS) (n : Nat)
    (hrd : ∀ X W, rdSs (rdS N (defScope st) n X W true) (defBody st) = rd X W)
    (hb : ∀ (X : Cx) (vs : List V) (H : Hp) (Q : VK) (E : XK), Ctx P w K mg base k X (fun cls d _ H => E cls d H) → sp vs H Q E → rd X (fun cls d _ H => E cls d H) { nx := fun _ H' => Q .non H', rt := Q } (start N vs) H) :
    FnS P w K mg base f (k + 1) ps sp := by
  refine ⟨fd, okV F S len (fun cdv A outer s H vs Q E hr h => ?_), F.binds bn⟩
  refine ⟨_, rdSs_ok (rdS_ok (N := N) (sc := defScope st) n (cm := true) (W := fun cls d _ H => E cls d H) ⟨⟨rfl, rfl, S.nd⟩, ⟨rfl, S.nd, fun _ z => z, fun _ _ => rfl, fun _ z => z⟩, rfl, rfl, (fun _ => passes_of rfl), fun _ => L2H.passesAt_of rfl⟩ (fun _ => rfl) (fun _ => takesV_of rfl rfl rfl rfl) (takesV_of (E := _) rfl rfl rfl rfl).2), ?_⟩
  rw [hrd]
  exact hb _ vs H Q E ⟨rfl, rfl, rfl, rfl, rfl, hr, takesV_of rfl rfl rfl rfl, rfl⟩ h

/-! ### what values do -/
variable {σ : L2.St} {H : Hp} {Q : VK} {x y : V}
theorem O2.of {f : Value → Value → Sem Value} {r : R2} (h : OpR X f r) (q : r x y H Q) : O2 X f x y σ H Q := fun pins s v u I rx ry => h pins s σ H x y v u Q I rx ry q
theorem O1.of {f : Value → Sem Value} {r : V → Hp → VK → Prop} (h : UnR X f r) (q : r x H Q) : O1 X f x σ H Q := fun pins s v I rx => h pins s σ H x v Q I rx q
theorem CV.of {f : Value} {r : List V → Hp → VK → Prop} {vs : List V} (h : CallR X f r) (q : r vs H Q) : CV X f vs σ H Q := fun pins s us I rv => h pins s σ H vs us Q I rv q
theorem CV.ofM {id : String} {r : V → List V → Hp → VK → Prop} {vs : List V} (h : MtM X id r) (q : r x vs H Q) : CV X (.builtin id) (x :: vs) σ H Q := fun pins s us I rv => by
  cases rv with
  | cons rx rr => exact h pins s σ H x vs _ _ Q I rx rr q
theorem Ix.of {r : R2} (h : IxR X r) (q : r x y H Q) : Ix X x y σ H Q := fun value slice pins s v u hs I rx ry => h value slice pins s σ H x y v u Q I rx ry q (by
  cases slice <;> first
    | rfl
    | cases hs)
theorem SetV.of {t : V → V → V → Hp → (Hp → Prop) → Prop} {o i v : V} {R : Hp → Prop} (h : PSet X t) (q : t o i v H R) : SetV X o i v σ H R := fun pins s ov iv u I r1 r2 r3 => h pins s σ H o i v ov iv u R I r1 r2 r3 q
theorem add_ii {i j : Int} (q : Q (.int (i + j)) H) : O2 X (binaryOp .Add) (.int i) (.int j) σ H Q := .of op_add ⟨i, j, rfl, rfl, q⟩
theorem sub_ii {i j : Int} (q : Q (.int (i - j)) H) : O2 X (binaryOp .Sub) (.int i) (.int j) σ H Q := .of op_sub ⟨i, j, rfl, rfl, q⟩
theorem mul_ii {i j : Int} (h : CMul i j) (q : Q (.int (i * j)) H) : O2 X (binaryOp .Mult) (.int i) (.int j) σ H Q := .of op_mul ⟨i, j, rfl, rfl, h, q⟩
theorem mulW_ii {i j : Int} (h : CMulW i j) (q : Q (.int (i * j)) H) : O2 X (binaryOp .Mult) (.int i) (.int j) σ H Q := .of op_mulW ⟨i, j, rfl, rfl, h, q⟩
theorem fmod_eq {i j : Int} (h : 0 < j) : i.fmod j = i % j := Int.fmod_eq_emod_of_nonneg i (Int.le_of_lt h)
theorem mod_ii {i j : Int} (h : 0 < j) (q : Q (.int (i % j)) H) : O2 X (binaryOp .Mod) (.int i) (.int j) σ H Q := .of op_modN ⟨i, j, rfl, rfl, by omega, by show Q (.int (i.fmod j)) H; rw [fmod_eq h]; exact q⟩
theorem div_ii {i j : Int} (h : 0 < j) (h2 : j.natAbs < 2 ^ 9000) (q : Q (.int (i / j)) H) : O2 X (binaryOp .FloorDiv) (.int i) (.int j) σ H Q :=
  .of op_fdivW ⟨i, j, rfl, rfl, wide_div h h2 (by decide) (by decide), q⟩
theorem pow_ii {i j : Int} (h : CPow i j) (q : Q (.int (i ^ j.toNat)) H) : O2 X (binaryOp .Pow) (.int i) (.int j) σ H Q := .of op_pow ⟨i, j, rfl, rfl, h, q⟩
theorem lt_ii {i j : Int} (q : Q (.bl (decide (i < j))) H) : O2 X (compareOp .Lt) (.int i) (.int j) σ H Q := .of op_lt ⟨i, j, rfl, rfl, q⟩
theorem le_ii {i j : Int} (q : Q (.bl (decide (i ≤ j))) H) : O2 X (compareOp .LtE) (.int i) (.int j) σ H Q := .of op_le ⟨i, j, rfl, rfl, q⟩
theorem gt_ii {i j : Int} (q : Q (.bl (decide (j < i))) H) : O2 X (compareOp .Gt) (.int i) (.int j) σ H Q := .of op_gt ⟨i, j, rfl, rfl, q⟩
theorem ge_ii {i j : Int} (q : Q (.bl (decide (j ≤ i))) H) : O2 X (compareOp .GtE) (.int i) (.int j) σ H Q := .of op_ge ⟨i, j, rfl, rfl, q⟩
theorem eq_sc (h : scal x y = true) (q : Q (.bl (decide (x = y))) H) : O2 X (compareOp .Eq) x y σ H Q := .of op_eq ⟨h, q⟩
theorem ne_sc (h : scal x y = true) (q : Q (.bl (!decide (x = y))) H) : O2 X (compareOp .NotEq) x y σ H Q := .of op_ne ⟨h, q⟩
theorem eq_ii {i j : Int} (q : Q (.bl (decide (i = j))) H) : O2 X (compareOp .Eq) (.int i) (.int j) σ H Q := eq_sc rfl (by
  have e : decide (V.int i = V.int j) = decide (i = j) := by simp
  rw [e]
  exact q)
theorem ne_ii {i j : Int} (q : Q (.bl (!decide (i = j))) H) : O2 X (compareOp .NotEq) (.int i) (.int j) σ H Q := ne_sc rfl (by
  have e : decide (V.int i = V.int j) = decide (i = j) := by simp
  rw [e]
  exact q)
theorem isN (q : Q (.bl (decide (x = .non))) H) : O2 X (compareOp .Is) x .non σ H Q := .of op_isN ⟨rfl, q⟩
theorem notN (q : Q (.bl (!decide (x = .non))) H) : O2 X (compareOp .IsNot) x .non σ H Q := .of op_notN ⟨rfl, q⟩
theorem neg_i {i : Int} (q : Q (.int (-i)) H) : O1 X (unaryOp .USub) (.int i) σ H Q := .of un_neg ⟨i, rfl, q⟩
theorem tru_v {R : Bool → Hp → Prop} {b : Bool} (h : TruV X.K x H b) (q : R b H) : Tr X x σ H R := fun pins s v I rx => tru_ok pins s σ H x v R I rx ⟨b, h, q⟩
theorem tru_b {R : Bool → Hp → Prop} {b : Bool} (q : R b H) : Tr X (.bl b) σ H R := tru_v rfl q
theorem not_b {b : Bool} (q : Q (.bl (!b)) H) : O1 X (unaryOp .Not) (.bl b) σ H Q := fun pins s v I rx => by
  cases rx
  exact not_of (wpAny_truthy_bool ⟨.bl (!b), H, I, rfl, q⟩)
/-- a def called -/
theorem cv_fn {f : Addr} {ps : List Str} {sp : Sp} {vs : List V} (C : Ctx P w K mg base k X W) (F : FnS P w K mg base f j ps sp) (hj : j ≤ k) (q : sp vs H Q (WE W σ)) : CV X (.ref f) vs σ H Q := by
  obtain ⟨fd, F, b⟩ := F
  obtain ⟨rfl, rfl, rfl, rfl, rfl, hr, tk, _⟩ := C
  exact fun pins s us I rv => run_fnS (E := WE W) F (hr.mono hj) b (passV tk σ) I rv q
/-- an instance made by its __init__ -/
theorem cv_new {Cc fi : Addr} {ps : List Str} {sp : Sp} {vs : List V} (C : Ctx P w K mg base k X W) (M : Mk K Cc fi) (F : FnS P w K mg base fi j ps sp) (hj : j + 1 ≤ k)
    (q : ∀ x dx, H x = none → H dx = none → dx ≠ x → sp (.ref x :: vs) (upd (upd H dx (.own x)) x (.ins Cc dx [])) (fun v H2 => v = .non ∧ Q (.ref x) H2) (WE W σ)) : CV X (.ref Cc) vs σ H Q := by
  obtain ⟨fd, F, hb⟩ := F
  obtain ⟨rfl, rfl, rfl, rfl, rfl, hr, tk, _⟩ := C
  intro pins s us I rv
  have n0 : H s.heap.objs.size = none := I.hok.fresh (Nat.le_refl _)
  have n1 : H (s.heap.objs.size + 1) = none := I.hok.fresh (Nat.le_succ _)
  have hq := q _ _ n1 n0 (Nat.ne_of_lt (Nat.lt_succ_self _))
  have J := Inv.made (C := Cc) I
  have rv2 : Vals (V.ref (s.heap.objs.size + 1) :: vs) (Value.ref (s.heap.objs.size + 1) :: us) := .cons rfl rv
  have hl : (Value.ref (s.heap.objs.size + 1) :: us).length = ps.length := by
    rw [← rv2.length]
    exact F.len _ _ _ _ hq
  have bd := hb _ (Value.ref (s.heap.objs.size + 1) :: us) J.kIn (by rw [List.append_nil]; exact hl)
  rw [List.append_nil] at bd
  have hr2 : Room (j + 1) X.A := hr.mono hj
  refine wpAny_call (make_map (f := fi) I.kIn M.makes M.init (beq_iff_eq.mp M.fn) ?_)
  refine codeAny_mono (F.run _ X.stack _ _ ⟨Value.ref (s.heap.objs.size + 1) :: us, []⟩ _ _ _ (WE W σ) (hr2.make Cc us []) (J.env0.make Cc us []) bd rv2 hq) fun r s' hr' => ?_
  cases r with
  | error e => exact passV tk σ pins _ _ e s' J hr'
  | ok fl =>
    cases fl with
    | ret u =>
      obtain ⟨v, H', J3, rv3, ev, q3⟩ := J.after hr'
      subst ev
      exact ⟨rv3, ⟨V.ref (s.heap.objs.size + 1), H', J3, rfl, q3⟩⟩
    | next => exact hr'.elim
    | brk => exact hr'.elim
    | cont => exact hr'.elim
/-- an attribute of an instance -/
theorem atr_fld {a Cc dx : Addr} {fs : List (Str × V)} {f : Str} {v : V} (C : Ctx P w K mg base k X W) (h : H a = some (.ins Cc dx fs)) (c : Cls K Cc) (n : NoAttr K Cc f) (l : fs.lookup f = some v) (q : Q v H) : O1 X (fun v => getAttr v f true) (.ref a) σ H Q := by
  obtain ⟨rfl, rfl, rfl, rfl, rfl, hr, tk, _⟩ := C
  intro pins s u I rx
  cases rx
  exact getattr_ok I h c n l fun u' s2 I2 ru => ⟨v, H, I2, ru, q⟩
/-- a property -/
theorem atr_prop {a Cc dx p g : Addr} {fs : List (Str × V)} {f : Str} {ps : List Str} {sp : Sp} (C : Ctx P w K mg base k X W) (h : H a = some (.ins Cc dx fs)) (c : Cls K Cc) (pr : PropOf K Cc f p g) (F : FnS P w K mg base g j ps sp) (hj : j + 1 ≤ k)
    (q : sp [.ref a] H Q E0) : O1 X (fun v => getAttr v f true) (.ref a) σ H Q := by
  obtain ⟨fd, F, hb⟩ := F
  obtain ⟨rfl, rfl, rfl, rfl, rfl, hr, tk, _⟩ := C
  intro pins s u I rx
  cases rx
  exact getprop_ok I h c pr F (hr.mono hj) hb .nil passLV q
theorem set_fld {a Cc dx : Addr} {fs : List (Str × V)} {f : Str} {v : V} {R : Hp → Prop} (C : Ctx P w K mg base k X W) (h : H a = some (.ins Cc dx fs)) (c : Cls K Cc) (n : NoAttr K Cc f) (hl : fs.length < 1000) (q : R (upd H a (.ins Cc dx (putF f v fs)))) : SetA X f (.ref a) v σ H R := by
  obtain ⟨rfl, rfl, rfl, rfl, rfl, hr, tk, _⟩ := C
  intro pins s ov u I rx rv
  cases rx
  exact setattr_ok I h c n hl rv fun s3 I3 => ⟨_, I3, q⟩
theorem ix_l {p : Addr} {xs : List V} {i : Int} {v : V} (C : Ctx P w K mg base k X W) (h : SqL K H p xs) (e : atI xs i = some v) (q : Q v H) : Ix X (.ref p) (.int i) σ H Q := by
  obtain ⟨rfl, rfl, rfl, rfl, rfl, hr, tk, _⟩ := C
  exact .of ix_list ⟨p, xs, i, v, rfl, rfl, h, e, q⟩
theorem ix_t {p : Addr} {xs : List V} {i : Int} {v : V} (C : Ctx P w K mg base k X W) (h : SqT K H p xs) (e : atI xs i = some v) (q : Q v H) : Ix X (.ref p) (.int i) σ H Q := by
  obtain ⟨rfl, rfl, rfl, rfl, rfl, hr, tk, _⟩ := C
  exact .of ix_tup ⟨p, xs, i, v, rfl, rfl, h, e, q⟩
theorem set_l {p : Addr} {xs : List V} {i : Int} {n : Nat} {v : V} {R : Hp → Prop} (h : H p = some (.lst xs)) (e : ixN xs.length i = some n) (q : R (upd H p (.lst (xs.set n v)))) : SetV X (.ref p) (.int i) v σ H R :=
  .of set_list ⟨p, xs, i, n, rfl, rfl, h, e, q⟩
theorem len_l {p : Addr} {xs : List V} (C : Ctx P w K mg base k X W) (h : SqL K H p xs) (q : Q (.int xs.length) H) : CV X (.builtin "len") [.ref p] σ H Q := by
  obtain ⟨rfl, rfl, rfl, rfl, rfl, hr, tk, _⟩ := C
  exact .of call_len_seq ⟨p, xs, rfl, .inl h, q⟩
theorem max_2 {i j : Int} (C : Ctx P w K mg base k X W) (q : Q (.int (if j > i then j else i)) H) : CV X (.builtin "max") [.int i, .int j] σ H Q := .of (call_max2 C.c) ⟨i, j, rfl, q⟩
theorem min_2 {i j : Int} (C : Ctx P w K mg base k X W) (q : Q (.int (if j < i then j else i)) H) : CV X (.builtin "min") [.int i, .int j] σ H Q := .of (call_min2 C.c) ⟨i, j, rfl, q⟩
theorem int_b {b : Bool} (q : Q (.int (if b then 1 else 0)) H) : CV X (.type "int") [.bl b] σ H Q := .of call_int1 (.inr ⟨b, rfl, q⟩)
/-- a loop over a list, a tuple -/
theorem it_l {p : Addr} {xs : List V} {R : It → Hp → Prop} (C : Ctx P w K mg base k X W) (h : SqL K H p xs) (q : R (Itl K p) H) : IterV X (.ref p) σ H R := by
  obtain ⟨rfl, rfl, rfl, rfl, rfl, hr, tk, _⟩ := C
  intro tg pins s v I rx
  cases rx
  obtain ⟨its, rv, pl, hz⟩ := I.list h
  refine wpAny_pyIter_list pl.isList ?_
  refine ⟨s.heap.objs.size, [s.heap.objs.size], _, _, H, rfl, I.kept (t' := s.toks) fun b o e => Heap.get?_push_of_some _ e, turn_list p _, ⟨_, Heap.get?_push_size _ rfl, rfl, rfl⟩, fun b hb => ?_, q⟩
  obtain rfl : b = s.heap.objs.size := by simpa using hb
  exact I.fpOk (Nat.le_refl _) (I.hok.fresh (Nat.le_refl _))
theorem it_t {p : Addr} {xs : List V} {R : It → Hp → Prop} (C : Ctx P w K mg base k X W) (h : SqT K H p xs) (q : R (Itt K p) H) : IterV X (.ref p) σ H R := by
  obtain ⟨rfl, rfl, rfl, rfl, rfl, hr, tk, _⟩ := C
  intro tg pins s v I rx
  cases rx
  obtain ⟨its, rv, pl, hz⟩ := I.tuple h
  refine wpAny_pyIter_tuple (show s.heap.IsTuple p its.toArray from pl) ?_
  refine ⟨s.heap.objs.size, [s.heap.objs.size], _, _, H, rfl, I.kept (t' := s.toks) fun b o e => Heap.get?_push_of_some _ e, turn_tuple p _, ⟨_, Heap.get?_push_size _ rfl, rfl, rfl⟩, fun b hb => ?_, q⟩
  obtain rfl : b = s.heap.objs.size := by simpa using hb
  exact I.fpOk (Nat.le_refl _) (I.hok.fresh (Nat.le_refl _))
/-- isinstance with one class -/
theorem isi {v c : V} {t u : Value} {b : Bool} (C : Ctx P w K mg base k X W) (hc : ClsV c u) (ty : TyX K H v t) (e : PySem.W.kitOne K t u = some b) (q : Q (.bl b) H) : CV X (.builtin "isinstance") [v, c] σ H Q := by
  obtain ⟨rfl, rfl, rfl, rfl, rfl, hr, tk, _⟩ := C
  exact .of call_isi ⟨v, c, t, u, b, rfl, hc, ty, e, q⟩
/-- what a place that may be within an except suite has -/
structure CtxH (P : Program) (w : World) (K : PySem.W.Frag) (mg : Str → Option Value) (base : Heap) (k : Nat) (X : Cx) : Prop where
  p : X.prog = P
  w : X.w = w
  K : X.K = K
  m : X.mg = mg
  b : X.base = base
  r : L2H.RoomH k X.A
theorem Ctx.h (C : Ctx P w K mg base k X W) : CtxH P w K mg base k X := ⟨C.p, C.w, C.K, C.m, C.b, L2H.roomH_of C.r⟩
theorem Ctx.sx (C : Ctx P w K mg base k X W) {a : Addr} {pn : List (Addr × Obj)} : CtxH P w K mg base k (suiteX X a pn) := ⟨C.p, C.w, C.K, C.m, C.b, L2H.roomH_mark C.r _⟩
/-- an own exception without own __init__, of one text -/
theorem mk_ownH {B newId initId : String} {bmB : List Value} {Cc : Addr} {m : Str} {R : XK} (C : CtxH P w K mg base k X) (F : ExcBaseFacts B newId initId bmB) (e : PySem.W.excIn K Cc bmB newId = true)
    (h1 : PySem.W.subIn K (.ref Cc) (.type "BaseException") = some true) (h2 : PySem.W.typeIn K (.ref Cc) = some (.type "type")) (q : R (.ref Cc) none H) : MkV X (.ref Cc) [.str m] σ H R := by
  obtain ⟨rfl, rfl, rfl, rfl, rfl, hr⟩ := C
  intro pins s us I rv
  obtain ⟨u, rfl, ru⟩ := rv.one
  obtain ⟨bm, N, nm, qn, bs, hdct, sn, sub, ab, col, dd, k0, k1, k2, k3, k5, mN, hC, hN, hni, T⟩ := exc_obj I.kIn e
  refine wpAny_call_exc_subT F T hC hN hni (fun h' e hm => ?_) (by show 1 ≤ sizeLine; rw [sizeLine_eq]; omega)
  exact L2H.mk_of5 I hm (raises_own h1 h2) ⟨⟨_, rfl⟩, q⟩ (I.hok.gone hm.new)
theorem mk_own {B newId initId : String} {bmB : List Value} {Cc : Addr} {m : Str} {R : XK} (C : Ctx P w K mg base k X W) (F : ExcBaseFacts B newId initId bmB) (e : PySem.W.excIn K Cc bmB newId = true)
    (h1 : PySem.W.subIn K (.ref Cc) (.type "BaseException") = some true) (h2 : PySem.W.typeIn K (.ref Cc) = some (.type "type")) (q : R (.ref Cc) none H) : MkV X (.ref Cc) [.str m] σ H R := mk_ownH C.h F e h1 h2 q
end
end Vc

namespace Vc
open PySem PySem.Spec PyProof.Rows L2

/-! ### what the top has written, looked at by the head -/
abbrev Fact : Type := PySem.W.Frag → Bool
structure DV where
  at_ : PySem.W.Frag → Addr
  name : Str
  qual : Str
  st : Stmt
def fnAt (K : PySem.W.Frag) (a : Addr) : He.FnV := match K.lookup a with
  | some ⟨_, _, .func fd, _⟩ => some (fd.name, fd.qualname, fd.params, fd.body, fd.scope, fd.globals, fd.closure, fd.defaults, fd.builtins)
  | _ => none
def DV.val (d : DV) : He.FnV := some (d.name, d.qual, defArgs d.st, .stmts (defBody d.st), defScope d.st, mainGlobals, [], .none, builtinsNs)
def DV.ok (K : PySem.W.Frag) (d : DV) : Bool := PySem.W.keepIn K (.ref (d.at_ K)) && (match K.lookup (d.at_ K) with
  | some ⟨_, _, .func fd, _⟩ => PySem.W.codeIn K fd.code d.qual
  | _ => false)
theorem DV.fn {K : PySem.W.Frag} {d : DV} (e : fnAt K (d.at_ K) = d.val) (c : d.ok K = true) : ∃ fd, Fun K d.name d.qual d.st (d.at_ K) fd := by
  unfold DV.ok at c
  obtain ⟨kp, c2⟩ := He.ba c
  unfold fnAt at e
  cases q : K.lookup (d.at_ K) with
  | none =>
    rw [q] at c2
    cases c2
  | some o =>
    obtain ⟨oc, od, dt, osl⟩ := o
    rw [q] at c2 e
    cases dt with
    | func fd =>
      obtain ⟨n1, n2, n3, n4, n5, n6, n7, n8, n9, n10, n11, n12, n13, n14, n15⟩ := fd
      have e2 : (some (n1, n2, n3, n4, n5, n6, n7, n8, n15) : He.FnV) = some (d.name, d.qual, defArgs d.st, .stmts (defBody d.st), defScope d.st, mainGlobals, [], .none, builtinsNs) := e
      simp only [Option.some.injEq, Prod.mk.injEq] at e2
      obtain ⟨h1, h2, h3, h4, h5, h6, h7, h8, h9⟩ := e2
      subst h1 h2 h3 h4 h5 h6 h7 h8 h9
      exact ⟨_, fun_mk q c2 kp⟩
    | _ => cases c2
abbrev AlV : Type := Bool × List He.FnV
def obsV (fa : List Fact) (fn : List DV) (K : PySem.W.Frag) : AlV := ((fa.all fun f => f K) && fn.all fun d => d.ok K, fn.map fun d => fnAt K (d.at_ K))
def valV (fn : List DV) : AlV := (true, fn.map DV.val)
def SaysV (fa : List Fact) (fn : List DV) (K : PySem.W.Frag) : Prop := obsV fa fn K = valV fn
/-- with the cells of the functions, and the third parties' table -/
def asX (g : Addr → Option Obj) (n : Nat) : List Addr := He.asG g n ++ ((He.asG g n).flatMap fun a => match g a with
  | some ⟨_, _, .func fd, _⟩ => fd.closure.map (·.2)
  | _ => []) ++ [cStatics]
def obsVG (n : Nat) (fa : List Fact) (fn : List DV) (g : Addr → Option Obj) : AlV := obsV fa fn (He.frG g (asX g n))
def hookV (n : Nat) (fa : List Fact) (fn : List DV) : PySem.W.Hook where
  α := AlV
  obs := fun s => obsVG n fa fn s.heap.get?
  val := fun _ => valV fn
  says := fun _ h => ∃ K : PySem.W.Frag, K.In h ∧ SaysV fa fn K
  of := fun _ _ e => ⟨_, He.frG_in, e⟩
  keeps := fun _ _ _ ⟨K, hK, c⟩ k => ⟨K, PySem.W.Frag.In.keeps hK k, c⟩
theorem obsVG_eq {n : Nat} {fa : List Fact} {fn : List DV} {g : Addr → Option Obj} {s : Shared} (h : ∀ a, g a = s.heap.get? a) : obsVG n fa fn g = (hookV n fa fn).obs s := by
  have e : g = s.heap.get? := funext h
  rw [e] <;> rfl
section
variable {fa : List Fact} {fn : List DV} {K : PySem.W.Frag}
theorem SaysV.fact (c : SaysV fa fn K) (i : Nat) {f : Fact} (h : fa[i]? = some f := by rfl) : f K = true := by
  have c1 := (He.ba (show ((fa.all fun f => f K) && fn.all fun d => d.ok K) = true from congrArg (fun z : AlV => z.1) c)).1
  exact List.all_eq_true.mp c1 f (List.mem_of_getElem? h)
theorem SaysV.def_ (c : SaysV fa fn K) (i : Nat) {d : DV} (h : fn[i]? = some d := by rfl) : ∃ fd, Fun K d.name d.qual d.st (d.at_ K) fd := by
  have c2 := (He.ba (show ((fa.all fun f => f K) && fn.all fun d => d.ok K) = true from congrArg (fun z : AlV => z.1) c)).2
  have e : fn.map (fun d => fnAt K (d.at_ K)) = fn.map DV.val := congrArg (fun z : AlV => z.2) c
  have e2 : (fn.map fun d => fnAt K (d.at_ K))[i]? = (fn.map DV.val)[i]? := by rw [e]
  rw [List.getElem?_map, List.getElem?_map, h] at e2
  exact DV.fn (Option.some.inj e2) (List.all_eq_true.mp c2 d (List.mem_of_getElem? h))
end
/-- the facts with the module's names -/
structure Txt (fa : List Fact) (fn : List DV) (K : PySem.W.Frag) (mg : Str → Option Value) : Prop where
  c : SaysV fa fn K
  g : ∀ (x : Str) (v : Value), PySem.W.nsIn K mainGlobals x = some (some v) → mg x = some v
  n : ∀ x : Str, PySem.W.nsIn K mainGlobals x = some none → mg x = none

/-! ### the kinds of facts -/
/-- the class's own place in its chain is the first; its instances may be called -/
def fSelf (x : Str) : Fact := fun K => PySem.W.selfFirst K (He.ga K x)
theorem self_of {K : PySem.W.Frag} {x : Str} (h : fSelf x K = true) : PySem.W.selfFirst K (He.ga K x) = true := h
def fCallO (x : Str) : Fact := fun K => decide (PySem.W.findIn K (.ref (He.ga K x)) "__call__" = some (some (.ref (He.ma K (He.ga K x) "__call__")))) && (PySem.W.isFn K (.ref (He.ma K (He.ga K x) "__call__")) && PySem.W.fnIn K (He.ma K (He.ga K x) "__call__"))
theorem callO_of' {K : PySem.W.Frag} {x : Str} (h : fCallO x K = true) : StX.CallO K (He.ga K x) (He.ma K (He.ga K x) "__call__") := by
  unfold fCallO at h
  simp only [Bool.and_eq_true, decide_eq_true_eq] at h
  exact ⟨h.1, h.2.1, h.2.2⟩
/-- the module's name x is a list of these texts -/
def fStrs (x : Str) (zs : List Str) : Fact := fun K => He.lstB K x (zs.map He.Dv.str)
theorem strs_of {K : PySem.W.Frag} {x : Str} {zs : List Str} (h : fStrs x zs K = true) (H : Hp) : SqL K H (He.ga K x) (zs.map V.str) := by
  have z := He.lstB_ok h H
  rw [List.map_map] at z
  exact z
def fGlo (x : Str) : Fact := fun K => He.Fa.ok K (.glo x)
def fFree (x : Str) : Fact := fun K => He.Fa.ok K (.free x)
def fInt (x : Str) (i : Int) : Fact := fun K => He.Fa.ok K (.int x i)
def fCls (x : Str) : Fact := fun K => He.Fa.ok K (.cls x)
def fNoat (x f : Str) : Fact := fun K => He.Fa.ok K (.noat x f)
def fMeth (x m : Str) : Fact := fun K => He.Fa.ok K (.meth x m)
def fMkr (x : Str) : Fact := fun K => He.Fa.ok K (.mkr x)
def fKeep (x : Str) : Fact := fun K => He.Fa.ok K (.keep x)
/-- an exception's class over a built-in one -/
def fExc (x : Str) (bm : List Value) (newId : String) : Fact := fun K => PySem.W.excIn K (He.ga K x) bm newId && (PySem.W.keepIn K (.ref (He.ga K x)) && (decide (PySem.W.subIn K (.ref (He.ga K x)) (.type "BaseException") = some true) && decide (PySem.W.typeIn K (.ref (He.ga K x)) = some (.type "type"))))
/-- an error of the class x, against except y -/
def fExm (x y : Str) (b : Bool) : Fact := fun K => He.Fa.ok K (.exm x y b)
/-- isinstance of an instance of x and the class y -/
def fKit (x y : Str) (b : Bool) : Fact := fun K => decide (PySem.W.kitOne K (.ref (He.ga K x)) (.ref (He.ga K y)) = some b)
/-- isinstance of a value of the built-in type t and the class y -/
def fKitT (t : String) (y : Str) (b : Bool) : Fact := fun K => decide (PySem.W.kitOne K (.type t) (.ref (He.ga K y)) = some b)
/-- isinstance of an instance of x and a built-in type -/
def fKitO (x : Str) (t : String) (b : Bool) : Fact := fun K => decide (PySem.W.kitOne K (.ref (He.ga K x)) (.type t) = some b)
/-- what isinstance asks of x's instances -/
def fIns (x : Str) : Fact := fun K => decide (PySem.W.findIn K (.ref (He.ga K x)) "__class__" = some (some (.builtin "object.__class__"))) && (decide (PySem.W.specialIn K (.builtin "object.__class__") "__get__" = some (some (.builtin "getset_descriptor.__get__"))) &&
  (decide (PySem.W.takesIn K (.builtin "object.__class__") = some true) && decide (PySem.W.mroIn K (He.ga K x) (.type "object") = some true)))
/-- a caught error of the class x, looked at by isinstance -/
def fExcC (x : Str) : Fact := fun K => decide (PySem.W.findIn K (.ref (He.ga K x)) "__getattribute__" = some (some (.builtin "BaseException.__getattribute__"))) && (decide (PySem.W.findIn K (.ref (He.ga K x)) "__getattr__" = some none) && (decide (PySem.W.subIn K (.ref (He.ga K x)) (.type "BaseException") = some true) && (PySem.W.hasDictIn K (He.ga K x) &&
  fIns x K)))
/-- the class has object's != -/
def fNe (x : Str) : Fact := fun K => decide (PySem.W.findIn K (.ref (He.ga K x)) "__ne__" = some (some (.builtin "object.__ne__"))) && decide (PySem.W.subIn K (.ref (He.ga K x)) (.type "object") = some true)
/-- the built-in type t is no subclass of x; nor is the class y -/
def fNsub (t : String) (x : Str) : Fact := fun K => decide (PySem.W.subIn K (.type t) (.ref (He.ga K x)) = some false)
def fNsubC (y x : Str) : Fact := fun K => decide (PySem.W.subIn K (.ref (He.ga K y)) (.ref (He.ga K x)) = some false)
/-- the getter of a property -/
def pga (K : PySem.W.Frag) (x f : Str) : Addr := match PySem.W.recIn K (He.ma K (He.ga K x) f) "property" with
  | some (.ref g :: _) => g
  | _ => 0
def fProp (x f : Str) : Fact := fun K => decide (PySem.W.findIn K (.ref (He.ga K x)) f = some (some (.ref (He.ma K (He.ga K x) f)))) && (decide (PySem.W.specialIn K (.ref (He.ma K (He.ga K x) f)) "__get__" = some (some (.builtin "property.__get__"))) &&
  (decide (PySem.W.takesIn K (.ref (He.ma K (He.ga K x) f)) = some true) && (match PySem.W.recIn K (He.ma K (He.ga K x) f) "property" with
    | some (.ref _ :: _) => true
    | _ => false)))
section
variable {fa : List Fact} {fn : List DV} {K : PySem.W.Frag} {mg : Str → Option Value}
theorem Txt.glo (T : Txt fa fn K mg) {x : Str} (h : fGlo x K = true) : mg x = some (.ref (He.ga K x)) := T.g _ _ (He.eqO_ok h)
theorem Txt.free (T : Txt fa fn K mg) {x : Str} (h : fFree x K = true) : mg x = none := T.n _ (He.eqO_ok h)
theorem Txt.int (T : Txt fa fn K mg) {x : Str} {i : Int} (h : fInt x i K = true) : ∃ t, mg x = some (.int i t) := by
  have h2 : (match PySem.W.nsIn K mainGlobals x with
    | some (some (.int j _)) => decide (j = i)
    | _ => false) = true := h
  split at h2
  · rename_i j t e
    obtain rfl := of_decide_eq_true h2
    exact ⟨t, T.g _ _ e⟩
  · cases h2
theorem cls_of {x : Str} (h : fCls x K = true) : Cls K (He.ga K x) := He.cls_ok h
theorem noat_of {x f : Str} (h : fNoat x f K = true) : NoAttr K (He.ga K x) f := He.noat_ok h
theorem meth_of {x m : Str} (h : fMeth x m K = true) : Meth K (He.ga K x) m (He.ma K (He.ga K x) m) := He.meth_ok h
theorem mkr_of {x : Str} (h : fMkr x K = true) : Mk K (He.ga K x) (He.ma K (He.ga K x) "__init__") := He.mkr_ok h
theorem exm_of' {x y : Str} {b : Bool} (h : fExm x y b K = true) : PySem.W.exmOne K (.ref (He.ga K x)) (.ref (He.ga K y)) = some b := He.exm_ok h
theorem kit_of' {x y : Str} {b : Bool} (h : fKit x y b K = true) : PySem.W.kitOne K (.ref (He.ga K x)) (.ref (He.ga K y)) = some b := of_decide_eq_true h
theorem kitT_of {t : String} {y : Str} {b : Bool} (h : fKitT t y b K = true) : PySem.W.kitOne K (.type t) (.ref (He.ga K y)) = some b := of_decide_eq_true h
theorem kitO_of {x : Str} {t : String} {b : Bool} (h : fKitO x t b K = true) : PySem.W.kitOne K (.ref (He.ga K x)) (.type t) = some b := of_decide_eq_true h
/-- an exception's class: its chain, that it stands, that it may be raised -/
structure ExcF (K : PySem.W.Frag) (C : Addr) (bm : List Value) (newId : String) : Prop where
  i : PySem.W.excIn K C bm newId = true
  k : PySem.W.keepIn K (.ref C) = true
  s : PySem.W.subIn K (.ref C) (.type "BaseException") = some true
  t : PySem.W.typeIn K (.ref C) = some (.type "type")
theorem exc_of {x : Str} {bm : List Value} {newId : String} (h : fExc x bm newId K = true) : ExcF K (He.ga K x) bm newId := by
  unfold fExc at h
  obtain ⟨c1, c⟩ := He.ba h
  obtain ⟨c2, c⟩ := He.ba c
  obtain ⟨c3, c4⟩ := He.ba c
  exact ⟨c1, c2, of_decide_eq_true c3, of_decide_eq_true c4⟩
theorem ne_of' {x : Str} (h : fNe x K = true) : PySem.W.findIn K (.ref (He.ga K x)) "__ne__" = some (some (.builtin "object.__ne__")) ∧ PySem.W.subIn K (.ref (He.ga K x)) (.type "object") = some true := by
  unfold fNe at h
  obtain ⟨c1, c2⟩ := He.ba h
  exact ⟨of_decide_eq_true c1, of_decide_eq_true c2⟩
theorem nsub_of {t : String} {x : Str} (h : fNsub t x K = true) : PySem.W.notFirst K (He.ga K x) (.type t) = true := by
  have e : PySem.W.subIn K (.type t) (.ref (He.ga K x)) = some false := of_decide_eq_true h
  unfold PySem.W.notFirst
  rw [e]
  simp
theorem nsubC_of {y x : Str} (h : fNsubC y x K = true) : PySem.W.notFirst K (He.ga K x) (.ref (He.ga K y)) = true := by
  have e : PySem.W.subIn K (.ref (He.ga K y)) (.ref (He.ga K x)) = some false := of_decide_eq_true h
  unfold PySem.W.notFirst
  rw [e]
  simp
theorem nf_self {C : Addr} : PySem.W.notFirst K C (.ref C) = true := by
  unfold PySem.W.notFirst
  simp
structure InsF (K : PySem.W.Frag) (C : Addr) : Prop where
  a : PySem.W.findIn K (.ref C) "__class__" = some (some (.builtin "object.__class__"))
  n : PySem.W.specialIn K (.builtin "object.__class__") "__get__" = some (some (.builtin "getset_descriptor.__get__"))
  t : PySem.W.takesIn K (.builtin "object.__class__") = some true
  m : PySem.W.mroIn K C (.type "object") = some true
theorem ins_of {x : Str} (h : fIns x K = true) : InsF K (He.ga K x) := by
  unfold fIns at h
  obtain ⟨c1, c⟩ := He.ba h
  obtain ⟨c2, c⟩ := He.ba c
  obtain ⟨c3, c4⟩ := He.ba c
  exact ⟨of_decide_eq_true c1, of_decide_eq_true c2, of_decide_eq_true c3, of_decide_eq_true c4⟩
theorem excC_of {x : Str} (h : fExcC x K = true) : ExcC K (He.ga K x) := by
  unfold fExcC at h
  obtain ⟨c1, c⟩ := He.ba h
  obtain ⟨c2, c⟩ := He.ba c
  obtain ⟨c3, c⟩ := He.ba c
  obtain ⟨c4, c5⟩ := He.ba c
  have I := ins_of c5
  exact ⟨of_decide_eq_true c1, of_decide_eq_true c2, of_decide_eq_true c3, c4, I.a, I.n, I.t, I.m⟩
theorem InsF.ty {C a dx : Addr} {fs : List (Str × V)} {H : Hp} (I : InsF K C) (c : Cls K C) (h : H a = some (.ins C dx fs)) : TyX K H (.ref a) (.ref C) := .base (.ins h c I.a I.n I.t I.m)
theorem prop_of {x f : Str} (h : fProp x f K = true) : PropOf K (He.ga K x) f (He.ma K (He.ga K x) f) (pga K x f) := by
  unfold fProp at h
  obtain ⟨c1, c⟩ := He.ba h
  obtain ⟨c2, c⟩ := He.ba c
  obtain ⟨c3, c4⟩ := He.ba c
  refine ⟨of_decide_eq_true c1, of_decide_eq_true c2, of_decide_eq_true c3, ?_⟩
  split at c4
  · rename_i g r e
    refine ⟨r, ?_⟩
    unfold pga
    rw [e]
  · cases c4
end
end Vc

namespace Vc
open PySem PySem.Spec PyProof.Rows L2

/-! ### steps -/
section
variable {X : Cx} {W : WX} {σ : L2.St} {H : Hp} {Q : VK} {D : Ends} {ta tb tc te : TE} {t u : TS} {a b c : TT} {i j n : Nat} {x y v : V} {f : Str} {tA : TA} {R : List V → Hp → Prop} {B : Bool → Hp → Prop}
theorem s_var (h : σ[i]? = some (some v)) (q : Q v H) : tVar i σ H Q := ⟨v, h, q⟩
theorem s_c (q : Q v H) : tC v σ H Q := q
theorem s_bin {g : Value → Value → Sem Value} (q : ta σ H fun x H1 => tb σ H1 fun y H2 => O2 X g x y σ H2 Q) : tBin X g ta tb σ H Q := q
theorem s_uny {g : Value → Sem Value} (q : ta σ H fun x H1 => O1 X g x σ H1 Q) : tUny X g ta σ H Q := q
theorem s_atr (q : ta σ H fun x H1 => O1 X (fun v => getAttr v f true) x σ H1 Q) : tAtr X f ta σ H Q := q
theorem s_tru (q : ta σ H fun x H1 => Tr X x σ H1 B) : tTru X ta σ H B := q
theorem s_not (q : a σ H fun c H1 => B (!c) H1) : tNot a σ H B := q
theorem s_and (q : a σ H fun c H1 => if c = true then b σ H1 B else B false H1) : tAnd a b σ H B := q
theorem s_or (q : a σ H fun c H1 => if c = true then B true H1 else b σ H1 B) : tOr a b σ H B := q
theorem s_andE (q : ta σ H fun x H1 => Tr X x σ H1 fun c H2 => if c = true then tb σ H2 Q else Q x H2) : tAndE X ta tb σ H Q := q
theorem s_orE (q : ta σ H fun x H1 => Tr X x σ H1 fun c H2 => if c = true then Q x H2 else tb σ H2 Q) : tOrE X ta tb σ H Q := q
theorem s_ifx (q : a σ H fun c H1 => if c = true then ta σ H1 Q else tb σ H1 Q) : tIf a ta tb σ H Q := q
theorem s_ifT (q : a σ H fun k H1 => if k = true then b σ H1 B else c σ H1 B) : tIfT a b c σ H B := q
theorem s_test (q : ta σ H fun x H' => ∃ k, x = .bl k ∧ B k H') : tTest ta σ H B := q
theorem s_ch {g g' : Value → Value → Sem Value} (q : ta σ H fun x H1 => tb σ H1 fun y H2 => O2 X g x y σ H2 fun z H3 => ∃ k, z = .bl k ∧ (if k = true then tc σ H3 fun w' H4 => O2 X g' y w' σ H4 Q else Q (.bl false) H3)) : tCh X g g' ta tb tc σ H Q := q
theorem s_cons (q : te σ H fun x H1 => tA σ H1 fun xs H2 => R (x :: xs) H2) : tCons te tA σ H R := q
theorem s_nil (q : R [] H) : tNil σ H R := q
theorem s_tup (q : tA σ H fun xs H1 => xs.length ≤ sizeLine ∧ ∀ p, H1 p = none → Q (.ref p) (upd H1 p (.tup xs))) : tTup tA σ H Q := q
theorem s_lst (q : tA σ H fun xs H1 => xs.length ≤ sizeLine ∧ ∀ p, H1 p = none → Q (.ref p) (upd H1 p (.lst xs))) : tLst tA σ H Q := q
theorem s_ix (q : ta σ H fun x H1 => tb σ H1 fun y H2 => Ix X x y σ H2 Q) : tIx X ta tb σ H Q := q
theorem s_slc {tl th : TO} (q : te σ H fun x H1 => tl σ H1 fun l H2 => th σ H2 fun u H3 => Slc X x l u σ H3 Q) : tSlc X te tl th σ H Q := q
theorem s_nopart {R : Option Int → Hp → Prop} (q : R none H) : tNoPart σ H R := q
theorem s_part {R : Option Int → Hp → Prop} (q : te σ H fun x H1 => ∃ i, x = .int i ∧ R (some i) H1) : tPart te σ H R := q
theorem s_call {x : Str} {g : Value} (h : Cal X x g) (q : tA σ H fun vs H1 => CV X g vs σ H1 Q) : tCallG X x tA σ H Q := ⟨g, h, q⟩
theorem s_mth {m : Str} (q : te σ H fun x H1 => ∃ g, Mth X m x H1 g ∧ tA σ H1 fun vs H2 => CV X g (x :: vs) σ H2 Q) : tMth X m te tA σ H Q := q
theorem s_gloT {x : Str} {T : String} (h : Cal X x (.type T)) (q : Q (.ty T) H) : tGlo X x σ H Q := by
  cases h with
  | typ h b => exact .inr ⟨_, .ty T, h, b, rfl, q⟩
theorem s_gloR {x : Str} {g : Addr} (h : Cal X x (.ref g)) (q : Q (.ref g) H) : tGlo X x σ H Q := by
  cases h with
  | own h k => exact .inl ⟨_, .ref g, h, rfl, q⟩
theorem s_gloV {x : Str} {u : Value} (h : X.mg x = some u) (r : RelV v u) (q : Q v H) : tGlo X x σ H Q := .inl ⟨u, v, h, r, q⟩
theorem s_gloA {x : Str} {a : Addr} (h : X.mg x = some (.ref a)) (q : Q (.ref a) H) : tGlo X x σ H Q := .inl ⟨_, .ref a, h, rfl, q⟩
theorem s_gloI {x : Str} {z : Int} (h : ∃ t, X.mg x = some (.int z t)) (q : Q (.int z) H) : tGlo X x σ H Q := by
  obtain ⟨t, h⟩ := h
  exact .inl ⟨_, .int z, h, ⟨t, rfl⟩, q⟩
theorem s_seq (q : t { D with nx := u D } σ H) : tSeq t u D σ H := q
theorem s_asg {g : TG} (q : te σ H fun x H1 => g x σ H1 D.nx) : tAsg te g D σ H := q
theorem s_gname {S : L2.St → Hp → Prop} (q : S (σ.set i (some v)) H) : gName i v σ H S := q
theorem s_gix {S : L2.St → Hp → Prop} (q : ta σ H fun o H1 => tb σ H1 fun i H2 => SetV X o i v σ H2 fun H3 => S σ H3) : gIx X ta tb v σ H S := q
theorem s_ret (q : te σ H D.rt) : tRet te D σ H := q
theorem s_retN (q : D.rt .non H) : tRetN D σ H := q
theorem s_ifS (q : a σ H fun b H1 => if b = true then t D σ H1 else u D σ H1) : tIfS a t u D σ H := q
theorem s_drop (q : te σ H fun _ H1 => D.nx σ H1) : tDrop te D σ H := q
theorem s_next (q : D.nx σ H) : tNext D σ H := q
theorem s_brk (q : D.bk σ H) : tBreak D σ H := q
theorem s_cont (q : D.ct σ H) : tCont D σ H := q
theorem s_par (q : tA σ H fun vs H1 => ∃ v w, vs = [v, w] ∧ D.nx ((σ.set i (some v)).set j (some w)) H1) : tPar i j tA D σ H := q
theorem s_satr (q : tb σ H fun y H1 => ta σ H1 fun x H2 => SetA X f x y σ H2 fun H3 => D.nx σ H3) : sAtr X f ta tb D σ H := q
theorem s_aug {op : Operator} (h : σ[i]? = some (some x)) (q : te σ H fun y H1 => O2 X (inplaceOp op) x y σ H1 fun z H2 => D.nx (σ.set i (some z)) H2) : sAug X op i te D σ H := ⟨x, h, q⟩
theorem s_augS {op : Operator} (q : ta σ H fun o H1 => tb σ H1 fun i H2 => O2 X getItem o i σ H2 fun x H3 => te σ H3 fun y H4 => O2 X (inplaceOp op) x y σ H4 fun z H5 => SetV X o i z σ H5 fun H6 => D.nx σ H6) : sAugS X op ta tb te D σ H := q
theorem s_rai {x : Str} {g : Value} (h : Cal X x g) (q : tA σ H fun vs H1 => MkV X g vs σ H1 fun cls d H' => W cls d σ H') : tRai X W x tA D σ H := ⟨g, h, q⟩
theorem s_mat {cs : List (Option TE × TS)} (q : te σ H fun x H1 => tCases X x cs D σ H1) : tMat X te cs D σ H := q
theorem s_caseV {r : List (Option TE × TS)} (q : te σ H fun y H1 => O2 X (compareOp .Eq) x y σ H1 fun z H2 => Tr X z σ H2 fun b H3 => if b = true then t D σ H3 else tCases X x r D σ H3) : tCases X x ((some te, t) :: r) D σ H := q
theorem s_caseD {r : List (Option TE × TS)} (q : t D σ H) : tCases X x ((none, t) :: r) D σ H := q
theorem s_par3 {l : Nat} (q : tA σ H fun vs H1 => ∃ u v w, vs = [u, v, w] ∧ D.nx (((σ.set i (some u)).set j (some v)).set l (some w)) H1) : tPar3 i j l tA D σ H := q
theorem s_ite {p : Prop} [Decidable p] {A B : Prop} (h1 : p → A) (h2 : ¬ p → B) : if decide p = true then A else B := by
  by_cases h : p
  · rw [if_pos (decide_eq_true h)]
    exact h1 h
  · rw [if_neg (by simpa using h)]
    exact h2 h
theorem s_iteN {p : Prop} [Decidable p] {A B : Prop} (h1 : ¬ p → A) (h2 : p → B) : if (!decide p) = true then A else B := by
  by_cases h : p
  · rw [if_neg (by simpa using h)]
    exact h2 h
  · rw [if_pos (by simpa using h)]
    exact h1 h
theorem nx_mk {n b c : L2.St → Hp → Prop} {r : VK} (q : n σ H) : Ends.nx { nx := n, rt := r, bk := b, ct := c } σ H := q
theorem ct_mk {n b c : L2.St → Hp → Prop} {r : VK} (q : c σ H) : Ends.ct { nx := n, rt := r, bk := b, ct := c } σ H := q
theorem bk_mk {n b c : L2.St → Hp → Prop} {r : VK} (q : b σ H) : Ends.bk { nx := n, rt := r, bk := b, ct := c } σ H := q
theorem rt_mk {n b c : L2.St → Hp → Prop} {r : VK} (q : r v H) : Ends.rt { nx := n, rt := r, bk := b, ct := c } v H := q
theorem s_nf {A B : Prop} (q : A) : if (!false) = true then A else B := iteT q
theorem s_nt {A B : Prop} (q : B) : if (!true) = true then A else B := iteF q
theorem s_iteB {k : Bool} {A B : Prop} (h1 : k = true → A) (h2 : k = false → B) : if k = true then A else B := by
  cases k with
  | true => exact h1 rfl
  | false => exact h2 rfl
theorem s_iteY {k : Bool} {A B : Prop} (h : k = true) (q : A) : if k = true then A else B := by
  rw [if_pos h]
  exact q
theorem s_iteZ {k : Bool} {A B : Prop} (h : k = false) (q : B) : if k = true then A else B := by
  rw [if_neg (by rw [h]; decide)]
  exact q
end
end Vc

namespace Vc
open PySem PySem.Spec PyProof.Rows L2

/-! ### == and != by an own __eq__ -/
section
variable {P : Program} {w : World} {K : PySem.W.Frag} {mg : Str → Option Value} {base : Heap} {k j : Nat} {X : Cx} {W : WX} {σ : L2.St} {H : Hp} {Q : VK} {y : V} {a Cc dx f : Addr} {fs : List (Str × V)} {ps : List Str} {sp : Sp} {t : Value}
/-- a method of an instance, called from within a built-in that stands in the body -/
theorem run_in {A : Around} {pins : List (Addr × Obj)} {s : Shared} {us : List Value} {vs : List V} (F : FnS X.prog X.w X.K X.mg X.base f j ps sp) (hr : Room j A) (hf : A.frames = some X.stack) (tk : TakesV X W) (I : L2.Inv X pins σ H s) (rv : Vals vs us) (q : sp vs H Q (WE W σ)) :
    wpAny (model X.prog X.w) A (call (.ref f) us) (EP X pins σ Q) X.xe s := by
  obtain ⟨fd, F, hb⟩ := F
  have hl : us.length = ps.length := by
    rw [← rv.length]
    exact F.len _ _ _ _ q
  have b := hb s us I.kIn (by rw [List.append_nil]; exact hl)
  rw [List.append_nil] at b
  have e := I.env0
  have e0 : Env0 X.prog X.w X.K X.mg X.base A X.stack s H := ⟨hf, e.mod, e.bs, e.bsz, e.funs, e.frf, e.hok, e.bare⟩
  refine wpAny_call (codeAny_mono (F.run A X.stack s H ⟨us, []⟩ us vs Q (WE W σ) hr e0 b rv q) fun r s' hq => ?_)
  cases r with
  | error e => exact passV tk σ pins H s e s' I hq
  | ok fl =>
    cases fl with
    | ret u => exact I.after hq
    | next => exact hq.elim
    | brk => exact hq.elim
    | cont => exact hq.elim
theorem run_code {A : Around} {pins : List (Addr × Obj)} {s : Shared} {us : List Value} {vs : List V} (F : FnS X.prog X.w X.K X.mg X.base f j ps sp) (hr : Room j A) (hf : A.frames = some X.stack) (tk : TakesV X W) (I : L2.Inv X pins σ H s) (rv : Vals vs us) (q : sp vs H Q (WE W σ)) :
    codeAny (model X.prog X.w) A (.call (.ref f) ⟨us, []⟩) (fun r s' => match r with | .ok (.ret v) => EP X pins σ Q v s' | .ok _ => False | .error e => X.xe e s') s := by
  obtain ⟨fd, F, hb⟩ := F
  have hl : us.length = ps.length := by
    rw [← rv.length]
    exact F.len _ _ _ _ q
  have b := hb s us I.kIn (by rw [List.append_nil]; exact hl)
  rw [List.append_nil] at b
  have e := I.env0
  have e0 : Env0 X.prog X.w X.K X.mg X.base A X.stack s H := ⟨hf, e.mod, e.bs, e.bsz, e.funs, e.frf, e.hok, e.bare⟩
  refine codeAny_mono (F.run A X.stack s H ⟨us, []⟩ us vs Q (WE W σ) hr e0 b rv q) fun r s' hq => ?_
  cases r with
  | error e => exact passV tk σ pins H s e s' I hq
  | ok fl =>
    cases fl with
    | ret u => exact I.after hq
    | next => exact hq.elim
    | brk => exact hq.elim
    | cont => exact hq.elim
theorem code_fn {vs : List V} (C : Ctx P w K mg base k X W) (F : FnS P w K mg base f j ps sp) (hj : j ≤ k) (q : sp vs H Q (WE W σ)) : CodeV X (.ref f) vs σ H Q := by
  obtain ⟨rfl, rfl, rfl, rfl, rfl, hr, tk, _⟩ := C
  exact fun pins s us I rv => run_code F (hr.mono hj) I.ok.frames tk I rv q
/-- f(..), f a local name of an instance that may be called -/
theorem callL_own {i : Nat} {ta : TA} {g a' : Addr} (C : Ctx P w K mg base k X W) (hs : σ[i]? = some (some (.ref a'))) (c : StX.CallO K Cc g) (q : ta σ H fun vs H1 => StX.InsC X H1 a' Cc ∧ CodeV X (.ref g) (.ref a' :: vs) σ H1 Q) : tCallL X i ta σ H Q :=
  ⟨a', hs, .inr ⟨Cc, g, by rw [C.K]; exact c, q⟩⟩
theorem callL_fn {i : Nat} {ta : TA} {a' : Addr} (C : Ctx P w K mg base k X W) (hs : σ[i]? = some (some (.ref a'))) (kp : PySem.W.keepIn K (.ref a') = true) (q : ta σ H fun vs H1 => CV X (.ref a') vs σ H1 Q) : tCallL X i ta σ H Q :=
  ⟨a', hs, .inl ⟨by rw [C.K]; exact kp, q⟩⟩
theorem add_own (C : Ctx P w K mg base k X W) (h : H a = some (.ins Cc dx fs)) (sf : PySem.W.selfFirst K Cc = true) (M : Meth K Cc "__add__" f) (F : FnS P w K mg base f j ps sp) (hj : j ≤ k) (ty : TyX K H y (.ref Cc))
    (q : sp [.ref a, y] H Q (WE W σ)) : O2 X (binaryOp .Add) (.ref a) y σ H Q := by
  obtain ⟨rfl, rfl, rfl, rfl, rfl, hr, tk, _⟩ := C
  intro pins s v u I rx ry
  cases rx
  obtain ⟨mA, J, _⟩ := ins_get I.hok h
  obtain ⟨od, J, _⟩ := J.look
  obtain ⟨m, hF⟩ := I.fr
  obtain ⟨P1, Z, p1, _⟩ := kit_of I ry ty
  refine PySem.W.binop_K (op := .Add) hF I.ok.mod.kin J (Z.ty _ _ I.kIn p1) sf M.at_ M.fn ?_
  exact thn (run_in F (hr.mono hj) I.ok.frames tk I (.cons (show RelV (.ref a) (.ref a) from rfl) (.cons ry .nil)) q) fun r s' ⟨z, H', I', rz, q'⟩ => SlX.cmpback rz ⟨z, H', I', rz, q'⟩
theorem inv_own (C : Ctx P w K mg base k X W) (h : H a = some (.ins Cc dx fs)) (M : Meth K Cc "__invert__" f) (F : FnS P w K mg base f j ps sp) (hj : j ≤ k) (q : sp [.ref a] H Q (WE W σ)) : O1 X (unaryOp .Invert) (.ref a) σ H Q := by
  obtain ⟨rfl, rfl, rfl, rfl, rfl, hr, tk, _⟩ := C
  intro pins s v I rx
  cases rx
  obtain ⟨mA, J, _⟩ := ins_get I.hok h
  obtain ⟨od, J, _⟩ := J.look
  obtain ⟨m, hF⟩ := I.fr
  exact PySem.W.ksp_inv hF I.ok.mod.kin J M.at_ M.fn (run_in F (hr.mono hj) I.ok.frames tk I (.cons (show RelV (.ref a) (.ref a) from rfl) .nil) q)
theorem eq_own (C : Ctx P w K mg base k X W) (h : H a = some (.ins Cc dx fs)) (c : Cls K Cc) (M : Meth K Cc "__eq__" f) (F : FnS P w K mg base f j ps sp) (hj : j ≤ k) (ty : TyX K H y t) (nf : PySem.W.notFirst K Cc t = true)
    (q : sp [.ref a, y] H Q (WE W σ)) : O2 X (compareOp .Eq) (.ref a) y σ H Q := by
  obtain ⟨rfl, rfl, rfl, rfl, rfl, hr, tk, _⟩ := C
  intro pins s v u I rx ry
  cases rx
  obtain ⟨mA, J, _⟩ := ins_get I.hok h
  obtain ⟨od, J, _⟩ := J.look
  obtain ⟨m, hF⟩ := I.fr
  obtain ⟨P1, Z, p1, _⟩ := kit_of I ry ty
  show wpAny (model X.prog X.w) X.A (richCompare .Eq (.ref a) u) _ _ _
  refine PySem.W.cmp_K (op := .Eq) (tb := t) (hr.mono hj).units0 hF I.ok.mod.kin J (Z.ty _ _ I.kIn p1) nf M.at_ M.fn ?_
  exact thn (run_in F (hr.mono hj) I.ok.frames tk I (.cons (show RelV (.ref a) (.ref a) from rfl) (.cons ry .nil)) q) fun r s' ⟨z, H', I', rz, q'⟩ => SlX.cmpback rz ⟨z, H', I', rz, q'⟩
theorem ifBound_B {M : Model} {A : Around} {E : Value → Shared → Prop} {K : PySem.W.Frag} {s : Shared} {x C : Addr} {ox : Obj} {od : Option Obj} {name : Str} {T id : String} {args : List Value} {Q : Option Value → Shared → Prop} (X : K.In s.heap) (I : PySem.W.InstAt s.heap x ox C od) (hs : PySem.W.findIn K (.ref C) name = some (some (.builtin id))) (S : Slot T name id)
    (h : wpAny M A (call (.builtin id) (.ref x :: args)) (fun v => Q (some v)) E s) : wpAny M A (callSpecialIfBound? (.ref x) name args) Q E s := by
  simp only [callSpecialIfBound?, bindSpecialIfBound?]
  refine wpAny_holding (wpAny_bind (wpAny_bind (wpAny_bind (I.type.here ((PySem.W.looks_findIn X hs).here ?_)))))
  simp only [S.bind]
  refine wpAny_bind (wpAny_askSetting (wpAny_ite ?_))
  have fin : wpAny M A (call (.builtin id) ([.ref x] ++ args) >>= fun v => pure (some v)) Q E s := wpAny_bind (wpAny_mono h (fun v s' h' => wpAny_pure h') fun _ _ h' => h')
  split
  · exact wpAny_bind (wpAny_pure (wpAny_pure fin))
  · exact wpAny_tryCatch (wpAny_bind (wpAny_pure (wpAny_pure fin)))
/-- != where the class has an own __eq__ and object's __ne__; its answers are truth values -/
theorem ne_own (C : Ctx P w K mg base k X W) (h : H a = some (.ins Cc dx fs)) (c : Cls K Cc) (M : Meth K Cc "__eq__" f) (F : FnS P w K mg base f j ps sp) (hj : j + 1 ≤ k) (ty : TyX K H y t) (nf : PySem.W.notFirst K Cc t = true)
    (hn : PySem.W.findIn K (.ref Cc) "__ne__" = some (some (.builtin "object.__ne__"))) (ho : PySem.W.subIn K (.ref Cc) (.type "object") = some true)
    (q : sp [.ref a, y] H (fun v H' => ∃ b, v = .bl b ∧ Q (.bl (!b)) H') (WE W σ)) : O2 X (compareOp .NotEq) (.ref a) y σ H Q := by
  obtain ⟨rfl, rfl, rfl, rfl, rfl, hr, tk, _⟩ := C
  intro pins s v u I rx ry
  cases rx
  obtain ⟨mA, J, _⟩ := ins_get I.hok h
  obtain ⟨od, J, _⟩ := J.look
  obtain ⟨P1, Z, p1, _⟩ := kit_of I ry ty
  have X0 := I.kIn
  have hr1 : Room (j + 1) X.A := hr.mono hj
  have hu := hr1.units0
  have hu1 : X.A.in1.units < cLine := hr1.in1.units0
  have S : Slot "tuple_iterator" (cmpInfo .NotEq).2.1 "object.__ne__" := PySem.F.slot_tuple_iterator_ne
  have one : wpAny (model X.prog X.w) X.A (tryCompare (.ref a) (cmpInfo .NotEq).2.1 u) (fun r s' => ∃ v, r = some v ∧ EP X pins σ Q v s') X.xe s := by
    unfold tryCompare
    refine wpAny_bind (ifBound_B X0 J hn S (wpAny_call (codeAny_call_builtin S.plain PySem.F.cmpEntry_ne ?_)))
    refine PySem.W.check_slot (owner := "object") (n := "__ne__") (by decide +kernel) (by decide +kernel) (J.type.andThen (PySem.W.looks_subIn X0 ho)) (PySem.F.cmpArgs_ne _ _) ?_
    unfold Builtin.«object.__ne__»
    refine wpAny_bind (wpAny_of_eq (a := ((Value.ref a : Value), [u])) (by first | rfl | (simp only [slotArgs]; rfl)) ?_)
    refine wpAny_bind (wpAny_cRoomFor hu1 ?_)
    refine wpAny_bind (PySem.W.ifBound_K X0 J M.at_ M.fn ?_)
    refine thn (run_in F hr1.in1 (by exact I.ok.frames) tk I (.cons (show RelV (.ref a) (.ref a) from rfl) (.cons ry .nil)) q) fun r s' ⟨z, H', I', rz, b, ez, q'⟩ => ?_
    subst ez
    cases rz
    refine wpAny_bind (wpAny_truthy_bool ?_)
    have fin : EP X pins σ Q (.bool (!b)) s' := ⟨.bl (!b), H', I', rfl, q'⟩
    exact wpAny_pure (wpAny_pure ⟨_, rfl, fin⟩)
  show wpAny (model X.prog X.w) X.A (richCompare .NotEq (.ref a) u) _ _ _
  unfold richCompare
  simp only [oneThing_ref]
  refine wpAny_holding (wpAny_bind (wpAny_cRoomFor hu ?_))
  refine wpAny_bind (J.type.here (wpAny_bind ((Z.ty _ _ I.kIn p1).here ?_)))
  split
  · rename_i qq
    have e : PySem.W.subIn X.K t (.ref Cc) = some false := by
      rcases Bool.or_eq_true_iff.mp nf with e | e
      · rw [beq_iff_eq.mp e] at qq
        simp at qq
      · exact beq_iff_eq.mp e
    refine wpAny_bind ((PySem.W.looks_subIn X0 e).here ?_)
    simp only [Bool.false_eq_true, if_false]
    refine wpAny_bind (thn one fun r s' z => ?_)
    obtain ⟨v, rfl, hq⟩ := z
    exact wpAny_pure hq
  · refine wpAny_bind (wpAny_pure ?_)
    simp only [Bool.false_eq_true, if_false]
    refine wpAny_bind (thn one fun r s' z => ?_)
    obtain ⟨v, rfl, hq⟩ := z
    exact wpAny_pure hq
end

/-! ### heaps -/
theorem same_upd {H : Hp} {p : Addr} {o : HO} (h : H p = none) : Same H (upd H p o) := fun b u e => by
  rw [upd_ne (ne_of_none e h)]
  exact e
/-- all that was tracked but what stands at l is as it was -/
def SameX (l : Addr) (H H' : Hp) : Prop := ∀ b o, b ≠ l → H b = some o → H' b = some o
theorem SameX.upd {l : Addr} {H : Hp} {o : HO} : SameX l H (L2.upd H l o) := fun b u n e => by
  rw [upd_ne n]
  exact e
theorem SameX.refl {l : Addr} {H : Hp} : SameX l H H := fun _ _ _ e => e
theorem SameX.trans {l : Addr} {H H1 H2 : Hp} (a : SameX l H H1) (b : SameX l H1 H2) : SameX l H H2 := fun c o n e => b c o n (a c o n e)
theorem Same_x {l : Addr} {H H' : Hp} (a : Same H H') : SameX l H H' := fun c o _ e => a c o e
theorem same_x {l : Addr} {H0 H H' : Hp} (a : Same H0 H) (n : H0 l = none) (b : SameX l H H') : Same H0 H' := fun c o e => b c o (ne_of_none e n) (a c o e)
theorem Same_ty {K : PySem.W.Frag} {H H' : Hp} {x : V} {t : Value} (s : Same H H') (h : TyX K H x t) : TyX K H' x t := by
  cases h with
  | base h =>
    cases h with
    | non => exact .base .non
    | bl x => exact .base (.bl x)
    | int i => exact .base (.int i)
    | str x => exact .base (.str x)
    | flt x => exact .base (.flt x)
    | lst e => exact .base (.lst (s _ _ e))
    | frz e => exact .base (.frz (s _ _ e))
    | tup e => exact .base (.tup (s _ _ e))
    | dK e => exact .base (.dK (s _ _ e))
    | dT e => exact .base (.dT (s _ _ e))
    | ins e c a n t m => exact .base (.ins (s _ _ e) c a n t m)
  | byt b => exact .byt b
  | set e => exact .set (s _ _ e)
  | kList e c => exact .kList e c
  | kTuple e c => exact .kTuple e c
  | kDict e c => exact .kDict e c
  | fTuple e => exact .fTuple (s _ _ e)
  | fDict e => exact .fDict (s _ _ e)

/-! ### loops -/
def Lp (J : It) (g : TG) (tb : TS) (D : Ends) (σ : L2.St) (H : Hp) : Prop := ∃ W : Nat → Nat → L2.St → Hp → Prop, (∃ m, W 0 m σ H) ∧ ∀ i m σ H, W i m σ H →
  (J.stop i H ∧ D.nx σ H) ∨ (J.go i H ∧ ∃ N : L2.St → Hp → Prop, (∀ σ' H', N σ' H' → ∃ m', m' < m ∧ W (i + 1) m' σ' H') ∧ ∀ x H', J.yld i H x H' → g x σ H' fun σ2 H2 => tb { D with nx := N, ct := N, bk := D.nx } σ2 H2)
section
variable {X : Cx} {g : TG} {tb : TS} {D : Ends} {σ : L2.St} {H : Hp} {te : TE} {ta : TA} {K : PySem.W.Frag}
theorem s_forL (q : te σ H fun x H1 => IterV X x σ H1 fun J H2 => Lp J g tb D σ H2) : tForO (iAny X te) g tb D σ H := .inl q
theorem s_forD {d : Addr} {kvs : List (Key × V)} (hd : H d = some (.dK kvs))
    (q : ∀ od, te σ (upd H d (.frz od (.dK kvs))) fun x H1 => IterV X x σ H1 fun J H2 => Lp J g tb ⟨fun σ' H' => H' d = some (.frz od (.dK kvs)) ∧ D.nx σ' (upd H' d (.dK kvs)), fun v H' => H' d = some (.frz od (.dK kvs)) ∧ D.rt v (upd H' d (.dK kvs)), fun σ' H' => H' d = some (.frz od (.dK kvs)) ∧ D.bk σ' (upd H' d (.dK kvs)), fun σ' H' => H' d = some (.frz od (.dK kvs)) ∧ D.ct σ' (upd H' d (.dK kvs))⟩ σ H2) : tForO (iAny X te) g tb D σ H := .inr ⟨d, _, hd, trivial, q⟩
theorem it_dK {d : Addr} {o : Obj} {kvs : List (Key × V)} {R : It → Hp → Prop} (h : H d = some (.frz o (.dK kvs))) (q : R (Itk d o kvs) H) : IterV X (.ref d) σ H R := by
  intro tg pins s v I rx
  obtain rfl : v = Value.ref d := rx
  obtain ⟨hs, hgd, hx, es, ep, vs, hdt, hsz, kv, hm⟩ := I.frzK h
  refine iter_keys hs hgd hx hdt (pi_one (tk := s.toks) I _ (turn_keys _ hdt) ⟨_, Heap.get?_push_size _ rfl, rfl, ?_⟩ q)
  rw [hsz] <;> rfl
theorem lp_keys {d : Addr} {o : Obj} {kvs : List (Key × V)} (Pv : Nat → L2.St → Hp → Prop) (h0 : Pv 0 σ H) (hl : ∀ i σ H, i ≤ kvs.length → Pv i σ H → H d = some (.frz o (.dK kvs)))
    (hs : ∀ i k v σ H, kvs[i]? = some (k, v) → Pv i σ H → g (kV k) σ H fun σ2 H2 => tb { D with nx := Pv (i + 1), ct := Pv (i + 1), bk := D.nx } σ2 H2) (hd : ∀ σ H, Pv kvs.length σ H → D.nx σ H) : Lp (Itk d o kvs) g tb D σ H :=
  for_it walk_keys Pv h0 hl (fun i x σ H H' _ p y => by
    obtain ⟨rfl, k, v, e, rfl⟩ := y
    exact hs i k v σ _ e p) hd
theorem s_for1 (m : X.mg "range" = none) (q : ta σ H fun vs H1 => ∃ j : Int, vs = [.int j] ∧ -(2 ^ 62) ≤ j ∧ j < 2 ^ 62 ∧ Lp (Itr 0 j.toNat) g tb D σ H1) : tForO (iRg1 X ta) g tb D σ H := .inl ⟨m, q⟩
theorem s_for2 (m : X.mg "range" = none) (q : ta σ H fun vs H1 => ∃ i j : Int, vs = [.int i, .int j] ∧ (-(2 ^ 62) ≤ i ∧ i < 2 ^ 62 ∧ -(2 ^ 62) ≤ j ∧ j < 2 ^ 62) ∧ Lp (Itr i (j - i).toNat) g tb D σ H1) : tForO (iRg2 X ta) g tb D σ H := .inl ⟨m, q⟩
theorem lp_range {lo : Int} {n : Nat} (Pv : Nat → L2.St → Hp → Prop) (h0 : Pv 0 σ H)
    (hs : ∀ i σ H, i < n → Pv i σ H → g (.int (lo + i)) σ H fun σ2 H2 => tb { D with nx := Pv (i + 1), ct := Pv (i + 1), bk := D.nx } σ2 H2) (hd : ∀ σ H, Pv n σ H → D.nx σ H) : Lp (Itr lo n) g tb D σ H := for_range Pv h0 hs hd
theorem lp_list {a : Addr} {xs : List V} (Pv : Nat → L2.St → Hp → Prop) (h0 : Pv 0 σ H) (hl : ∀ i σ H, i ≤ xs.length → Pv i σ H → SqL K H a xs)
    (hs : ∀ i x σ H, xs[i]? = some x → Pv i σ H → g x σ H fun σ2 H2 => tb { D with nx := Pv (i + 1), ct := Pv (i + 1), bk := D.nx } σ2 H2) (hd : ∀ σ H, Pv xs.length σ H → D.nx σ H) : Lp (Itl K a) g tb D σ H := for_list Pv h0 hl hs hd
theorem lp_tup {a : Addr} {xs : List V} (Pv : Nat → L2.St → Hp → Prop) (h0 : Pv 0 σ H) (hl : ∀ i σ H, i ≤ xs.length → Pv i σ H → SqT K H a xs)
    (hs : ∀ i x σ H, xs[i]? = some x → Pv i σ H → g x σ H fun σ2 H2 => tb { D with nx := Pv (i + 1), ct := Pv (i + 1), bk := D.nx } σ2 H2) (hd : ∀ σ H, Pv xs.length σ H → D.nx σ H) : Lp (Itt K a) g tb D σ H := for_tup Pv h0 hl hs hd
theorem Cal.suite {x : Str} {f : Value} {a : Addr} {pn : List (Addr × Obj)} (h : Cal X x f) : Cal (X.suite a pn) x f := by
  cases h with
  | own h k => exact .own h k
  | blt h b => exact .blt h b
  | typ h b => exact .typ h b
theorem Cal.suiteX {x : Str} {f : Value} {a : Addr} {pn : List (Addr × Obj)} (h : Cal X x f) : Cal (suiteX X a pn) x f := by
  cases h with
  | own h k => exact .own h k
  | blt h b => exact .blt h b
  | typ h b => exact .typ h b
theorem s_raiN {W : WX} {x : Str} {f : Value} (hot : L2H.HotC X) (h : Cal X x f) (q : ta σ H fun vs H1 => MkV X f vs σ H1 fun cls d H' => W (far cls) d σ H') : tRaiN X W x ta D σ H := ⟨hot, f, h, q⟩
theorem Cal.name {x : Str} {f : Addr} (h : Cal X x (.ref f)) : NameV X x (.ref f) := by
  cases h with
  | own h k => exact .inl h
theorem s_tryA {W : WX} {x : Str} {i : Nat} {c : Value} {su : TSu} {tb : Cx → WX → TS} (h : NameV X x c)
    (q : ∀ (pn : List (Addr × Obj)) (xe : Value → Shared → Prop), TakesV (X.tr pn xe) (wManyV X.K W D [(c, some i, su)]) → tb (X.tr pn xe) (wManyV X.K W D [(c, some i, su)]) D σ H) : tTryA X W x i su tb D σ H := ⟨c, h, q⟩
theorem s_tryM {W : WX} {xs : List Str} {cs : List Value} {sus : List TSu} {tb : Cx → WX → TS} (h : NamesL X xs cs)
    (q : ∀ (pn : List (Addr × Obj)) (xe : Value → Shared → Prop), TakesV (X.tr pn xe) (wManyV X.K W D (cs.zip (sus.map fun s => (none, s)))) → tb (X.tr pn xe) (wManyV X.K W D (cs.zip (sus.map fun s => (none, s)))) D σ H) : tTryM X W xs sus tb D σ H := ⟨cs, h, q⟩
theorem s_tryN {W : WX} {xs : List Str} {cs : List Value} {sus : List (Option Nat × TSu)} {tb : Cx → WX → TS} (h : NamesL X xs cs)
    (q : ∀ (pn : List (Addr × Obj)) (xe : Value → Shared → Prop), TakesV (X.tr pn xe) (wManyV X.K W D (cs.zip sus)) → tb (X.tr pn xe) (wManyV X.K W D (cs.zip sus)) D σ H) : tTryN X W xs sus tb D σ H := ⟨cs, h, q⟩
theorem isi_exc {P : Program} {w : World} {mg : Str → Option Value} {base : Heap} {k : Nat} {W : WX} {a D D2 : Addr} {oe : Obj} {pn : List (Addr × Obj)} {b : Bool} {Q : VK} (C : Ctx P w K mg base k X W) (e : ExcC K D) (hz : Zc (.ref D) none oe) (hf : ∃ vs, oe.data = .fields vs)
    (kk : PySem.W.kitOne K (.ref D) (.ref D2) = some b) (q : Q (.bl b) H) : CV (X.suite a ((a, oe) :: pn)) (.builtin "isinstance") [.ref a, .ref D2] σ H Q := by
  have hK := C.K
  subst hK
  exact CV.of (call_isE e hz hf) ⟨.ref D2, .ref D2, b, rfl, fun u r => r, kk, q⟩
end
end Vc

namespace Vc
open PySem PySem.Spec PyProof.Rows L2

theorem Rd_same {H H' : Hp} {a : Addr} {o : HO} (s : Same H H') (h : Rd H a o) : Rd H' a o := h.elim (fun h => .inl (s _ _ h)) fun ⟨o, h⟩ => .inr ⟨o, s _ _ h⟩
theorem SqL_same {K : PySem.W.Frag} {H H' : Hp} {a : Addr} {xs : List V} (s : Same H H') (h : SqL K H a xs) : SqL K H' a xs := h.elim (fun h => .inl (Rd_same s h)) .inr
theorem SqT_same {K : PySem.W.Frag} {H H' : Hp} {a : Addr} {xs : List V} (s : Same H H') (h : SqT K H a xs) : SqT K H' a xs := h.elim (fun h => .inl (Rd_same s h)) .inr
mutual
theorem Dp_same {K : PySem.W.Frag} {H H' : Hp} (s : Same H H') : ∀ (d : PyData) (v : V), Dp K H v d → Dp K H' v d
  | .none, _, h => by cases h; exact .non
  | .bool b, _, h => by cases h; exact .bl b
  | .int i, _, h => by cases h; exact .int i
  | .str x, _, h => by cases h; exact .str x
  | .list ds, _, h => by
    cases h with
    | lst a b => exact .lst (SqL_same s a) (DpAll_same s ds _ b)
  | .tuple ds, _, h => by
    cases h with
    | tup a b => exact .tup (SqT_same s a) (DpAll_same s ds _ b)
  | .dict _, _, h => by cases h
theorem DpAll_same {K : PySem.W.Frag} {H H' : Hp} (s : Same H H') : ∀ (ds : List PyData) (vs : List V), DpAll K H vs ds → DpAll K H' vs ds
  | [], _, h => by cases h; exact .nil
  | d :: ds, _, h => by
    cases h with
    | cons a b => exact .cons (Dp_same s d _ a) (DpAll_same s ds _ b)
end
theorem DpAll_ints {K : PySem.W.Frag} {H : Hp} : ∀ js : List Int, DpAll K H (js.map V.int) (js.map PyData.int)
  | [] => .nil
  | i :: js => .cons (.int i) (DpAll_ints js)
theorem eqv_ints : ∀ is js : List Int, PyData.eqvAll (is.map PyData.int) (js.map PyData.int) = decide (is = js)
  | [], [] => rfl
  | [], _ :: _ => rfl
  | _ :: _, [] => rfl
  | i :: is, j :: js => by
    show (PyData.eqv (.int i) (.int j) && PyData.eqvAll (is.map PyData.int) (js.map PyData.int)) = _
    rw [eqv_ints is js]
    show ((i == j) && decide (is = js)) = _
    by_cases a : i = j <;> by_cases b : is = js <;> simp [a, b]
theorem lay_ints : ∀ is : List Int, PyData.canLayAll0 (is.map PyData.int) = true
  | [] => rfl
  | i :: is => by
    show (PyData.canLay0 (.int i) && PyData.canLayAll0 (is.map PyData.int)) = true
    rw [lay_ints is]
    rfl
theorem dep_ints : ∀ is : List Int, PyData.depthAll (is.map PyData.int) = 0
  | [] => rfl
  | i :: is => by
    show max (PyData.depth (.int i)) (PyData.depthAll (is.map PyData.int)) = 0
    rw [dep_ints is]
    rfl
theorem sha_ints (is : List Int) : SeqAt.shaped (.list (is.map PyData.int)) = true := by
  show (PyData.canLayAll0 (is.map PyData.int) && decide (PyData.depthAll (is.map PyData.int) + 1 ≤ 64)) = true
  rw [lay_ints, dep_ints]
  rfl
theorem sha_intsT (is : List Int) : SeqAt.shaped (.tuple (is.map PyData.int)) = true := by
  show (PyData.canLayAll0 (is.map PyData.int) && decide (PyData.depthAll (is.map PyData.int) + 1 ≤ 64)) = true
  rw [lay_ints, dep_ints]
  rfl
section
variable {P : Program} {w : World} {K : PySem.W.Frag} {mg : Str → Option Value} {base : Heap} {k : Nat} {X : Cx} {W : WX} {σ : L2.St} {H : Hp} {Q : VK} {x y : V} {d e : PyData} {is js : List Int} {a b : Addr}
theorem eq_D (C : Ctx P w K mg base k X W) (h1 : Dp K H x d) (h2 : Dp K H y e) (s1 : SeqAt.shaped d = true) (s2 : SeqAt.shaped e = true) (q : Q (.bl (PyData.eqv d e)) H) : O2 X (compareOp .Eq) x y σ H Q := by
  have hK := C.K
  subst hK
  exact .of (op_eqD C.r.units) ⟨d, e, h1, h2, s1, s2, q⟩
theorem ne_D (C : Ctx P w K mg base k X W) (h1 : Dp K H x d) (h2 : Dp K H y e) (s1 : SeqAt.shaped d = true) (s2 : SeqAt.shaped e = true) (q : Q (.bl (!PyData.eqv d e)) H) : O2 X (compareOp .NotEq) x y σ H Q := by
  have hK := C.K
  subst hK
  exact .of (op_neD C.r.units) ⟨d, e, h1, h2, s1, s2, q⟩
theorem eq_il (C : Ctx P w K mg base k X W) (h1 : SqL K H a (is.map V.int)) (h2 : SqL K H b (js.map V.int)) (q : Q (.bl (decide (is = js))) H) : O2 X (compareOp .Eq) (.ref a) (.ref b) σ H Q := by
  refine eq_D C (.lst h1 (DpAll_ints is)) (.lst h2 (DpAll_ints js)) (sha_ints is) (sha_ints js) ?_
  show Q (.bl (PyData.eqvAll _ _)) H
  rw [eqv_ints]
  exact q
theorem ne_il (C : Ctx P w K mg base k X W) (h1 : SqL K H a (is.map V.int)) (h2 : SqL K H b (js.map V.int)) (q : Q (.bl (!decide (is = js))) H) : O2 X (compareOp .NotEq) (.ref a) (.ref b) σ H Q := by
  refine ne_D C (.lst h1 (DpAll_ints is)) (.lst h2 (DpAll_ints js)) (sha_ints is) (sha_ints js) ?_
  show Q (.bl (!PyData.eqvAll _ _)) H
  rw [eqv_ints]
  exact q
theorem s_lstK {tA : TA} {n : Nat} (q : tA σ H fun xs H1 => xs.length ≤ sizeLine ∧ ∀ p, H1 p = none → Q (.ref p) (upd H1 p (.lst xs))) : tLst tA σ H Q := q
theorem tru_not {R : Bool → Hp → Prop} {c : Bool} (q : R c H) : Tr X (.bl c) σ H R := tru_b q
theorem eq_bb {c d : Bool} (q : Q (.bl (decide (c = d))) H) : O2 X (compareOp .Eq) (.bl c) (.bl d) σ H Q := eq_sc rfl (by
  have : decide ((V.bl c) = .bl d) = decide (c = d) := by cases c <;> cases d <;> simp
  rw [this]
  exact q)
theorem ne_bb {c d : Bool} (q : Q (.bl (!decide (c = d))) H) : O2 X (compareOp .NotEq) (.bl c) (.bl d) σ H Q := ne_sc rfl (by
  have : decide ((V.bl c) = .bl d) = decide (c = d) := by cases c <;> cases d <;> simp
  rw [this]
  exact q)
theorem ne_self {c : Bool} (q : Q (.bl false) H) : O2 X (compareOp .NotEq) (.bl c) (.bl c) σ H Q := ne_bb (by
  rw [decide_eq_true rfl]
  exact q)
end
theorem szr {n : Nat} (h : Nat.ble n 100000 = true) : n ≤ sizeLine := Nat.le_trans (Nat.le_of_ble_eq_true h) (by decide)
theorem sz2 {n : Nat} (h : n ≤ 100000) : n ≤ sizeLine := Nat.le_trans h (by decide)
end Vc

namespace Vc
open PySem PySem.Spec PyProof.Rows L2

/-! ### the law's own def, and the end -/
/-- the law's def, over every heap -/
def FnL (P : Program) (w : World) (K : PySem.W.Frag) (mg : Str → Option Value) (f : Addr) (k : Nat) (x : Str) (sp : Sp) : Prop :=
  ∃ fd, (∀ (s : Shared) (u : Value), BindsTo s fd ⟨[u], []⟩ [(x, u)]) ∧ ∀ base : Heap, FnOk P w K mg base (CXV P w) k f fd [x] sp
theorem fn_okL {P : Program} {w : World} {K : PySem.W.Frag} {mg : Str → Option Value} {k : Nat} {x qual : Str} {st : Stmt} {f : Addr} {fd : FuncData} {N : List Str} {p : Str} {sp : Sp} (F : Fun K x qual st f fd) (S : FnScope N [p] (defScope st))
    (bn : ∀ (kV doc pm : Value) (an : Option Addr) (cdv ct : Value) (us : List Value), us.length = [p].length → bindArgs (PySem.W.fnOf x qual (defArgs st) (defBody st) (defScope st) .none kV doc pm an cdv ct) ⟨us, []⟩ = pure ([p].zip us))
    (len : ∀ vs H Q E, sp vs H Q E → vs.length = [p].length) (rd : Cx → WX → TS) (n : Nat)
    (hrd : ∀ X W, rdSs (rdS N (defScope st) n X W true) (defBody st) = rd X W)
    (hb : ∀ (base : Heap) (X : Cx) (vs : List V) (H : Hp) (Q : VK) (E : XK), Ctx P w K mg base k X (fun cls d _ H => E cls d H) → sp vs H Q E → rd X (fun cls d _ H => E cls d H) { nx := fun _ H' => Q .non H', rt := Q } (start N vs) H) :
    FnL P w K mg f (k + 1) p sp := by
  refine ⟨fd, fun s u => ?_, fun base => okV F S len (fun cdv A outer s H vs Q E hr h => ?_)⟩
  · obtain ⟨oc, od, kV, doc, pm, an, cdv, ct, osl, rfl, lk, hcd⟩ := F.ex
    exact .of_eq (bn kV doc pm an cdv ct [u] rfl)
  refine ⟨_, rdSs_ok (rdS_ok (N := N) (sc := defScope st) n (cm := true) (W := fun cls d _ H => E cls d H) ⟨⟨rfl, rfl, S.nd⟩, ⟨rfl, S.nd, fun _ z => z, fun _ _ => rfl, fun _ z => z⟩, rfl, rfl, (fun _ => passes_of rfl), fun _ => L2H.passesAt_of rfl⟩ (fun _ => rfl) (fun _ => takesV_of rfl rfl rfl rfl) (takesV_of (E := _) rfl rfl rfl rfl).2), ?_⟩
  rw [hrd]
  exact hb base _ vs H Q E ⟨rfl, rfl, rfl, rfl, rfl, hr, takesV_of rfl rfl rfl rfl, rfl⟩ h
theorem CXV_no {P : Program} {w : World} {outer : List Env} {H : Hp} {s : Shared} {u : Value} {s' : Shared} (h : CXV P w outer H s (fun _ _ _ => False) u s') : False := by
  rcases h with h | h
  · obtain ⟨_, _, _, _, _, _, _, _, _, _, _, _, z⟩ := h
    exact z.2
  · obtain ⟨_, _, _, _, _, _, _, _, _, _, _, _, z⟩ := h
    exact z.2
theorem walk_v {l : PySem.W.OpenLaw} {n k : Nat} {q : Program} {loose : List Str} {XP : (Str → Option Value) → Heap → Prop} {fa : List Fact} {fn : List DV} {d : DefRec} {x : Str} {sp : PySem.W.Frag → Sp}
    (hn : l.most = some n) (hn2 : n ≤ sizeLine) (hdf : d.params.defaults = []) (hr : Room k callerA) {dn : Str} (ed : d.name = dn) (hg0 : ∀ K : PySem.W.Frag, SaysV fa fn K → fGlo dn K = true)
    (F : ∀ (w : World) (K : PySem.W.Frag) (mg : Str → Option Value), Txt fa fn K mg → FnL l.prog w K mg (He.ga K dn) k x (sp K))
    (hsp : ∀ (K : PySem.W.Frag) (H : Hp) (a : Addr) (ns : List Int), ns.length ≤ n → SqL K H a (ns.map V.int) → sp K [.ref a] H (fun v _ => v = .bl true) fun _ _ _ => False) :
    PySem.W.WalkO q loose XP (hookV 6 fa fn).says l.row.toRowW d [] (fun f vs => PySem.call f vs) := by
  refine Att.attach_call hn hdf fun w s₀ s₁ mg mb f o pm cd doc a vs ns G Y ho hd hcd hmg hobj hints hlen hg => ?_
  obtain ⟨K, KX, c⟩ := Y
  have T : Txt fa fn K mg := ⟨c, fun x v e => PySem.W.mg_of KX G.T.g e, fun x e => PySem.W.mg_none_of KX G.T.g e⟩
  obtain ⟨fd, hb, hF⟩ := F w K mg T
  rw [ed] at hmg
  have e := hmg.symm.trans (He.glo_ok KX G.T.g (hg0 K c))
  cases e
  exact law_call KX G.T.g G.T.b G.T.builtins G.T.nolimit hg hobj hints (Nat.le_trans hlen hn2) hr (fun base _ _ => hF base) hb (fun H hO hS => hsp K H a ns hlen hS) fun H e s' z => CXV_no z
end Vc

namespace Vc
open PySem PySem.Spec PyProof.Rows L2

/-! ### comprehensions -/
section
variable {P : Program} {w : World} {K : PySem.W.Frag} {mg : Str → Option Value} {base : Heap} {k : Nat} {X Y : Cx} {W : WX} {σ : L2.St} {H : Hp} {Q : VK}
theorem Ctx.blk (C : Ctx P w K mg base k X W) (b : Blk X Y) : Ctx P w K mg base k Y W0 := by
  obtain ⟨sc, s, H, c, cl, fp, rfl⟩ := b
  exact ⟨C.p, C.w, C.K, C.m, C.b, C.r, takesV0, C.c⟩
/-- a comprehension's turns -/
def LcT (J : It) (g : TG) (tt : TT) (te : TE) (vs : List Nat) (σ : L2.St) (H1 : Hp) (Q : VK) : Prop := ∀ D, H1 D = none → ∃ W : Nat → Nat → Hp → Prop, (∃ m, W 0 m (upd H1 D (.lst []))) ∧ ∀ i m H, W i m H →
  (J.stop i H ∧ Q (.ref D) H) ∨ (J.go i H ∧ ∃ Nx : Hp → Prop, (∀ H', Nx H' → ∃ m', m' < m ∧ W (i + 1) m' H') ∧ ∀ x H', J.yld i H x H' → g x (wipe σ vs) H' fun σ2 H2 => wipe σ2 vs = wipe σ vs ∧ tt σ2 H2 fun b H3 =>
    if b = true then te σ2 H3 fun y H4 => ∃ acc, H4 D = some (.lst acc) ∧ acc.length < sizeLine ∧ Nx (upd H4 D (.lst (acc ++ [y]))) else Nx H3)
theorem s_lcA {g : TG} {tt : TT} {te0 te : TE} {vs : List Nat} (C : Ctx P w K mg base k X W) (q : te0 σ H fun x H1 => IterV X x σ H1 fun J H2 => LcT J g tt te vs σ H2 Q) : tLcC X (iAny X te0) g tt te vs σ H Q := ⟨C.c, .inl q⟩
theorem s_lc1 {g : TG} {tt : TT} {te : TE} {ta : TA} {vs : List Nat} (C : Ctx P w K mg base k X W) (m : X.mg "range" = none) (q : ta σ H fun us H1 => ∃ j : Int, us = [.int j] ∧ -(2 ^ 62) ≤ j ∧ j < 2 ^ 62 ∧ LcT (Itr 0 j.toNat) g tt te vs σ H1 Q) : tLcC X (iRg1 X ta) g tt te vs σ H Q := ⟨C.c, .inl ⟨m, q⟩⟩
theorem s_lc2 {g : TG} {tt : TT} {te : TE} {ta : TA} {vs : List Nat} (C : Ctx P w K mg base k X W) (m : X.mg "range" = none) (q : ta σ H fun us H1 => ∃ i j : Int, us = [.int i, .int j] ∧ (-(2 ^ 62) ≤ i ∧ i < 2 ^ 62 ∧ -(2 ^ 62) ≤ j ∧ j < 2 ^ 62) ∧ LcT (Itr i (j - i).toNat) g tt te vs σ H1 Q) : tLcC X (iRg2 X ta) g tt te vs σ H Q := ⟨C.c, .inl ⟨m, q⟩⟩
/-- [elt for x in a list if ..]: what each turn adds -/
theorem lc_fm {a : Addr} {xs : List V} {g : TG} {tt : TT} {te : TE} {vs : List Nat} (h : SqL K H a xs) (hz : xs.length ≤ sizeLine) (f : Nat → V → Option V)
    (hs : ∀ (i : Nat) (x : V) (H' : Hp) (R : V → Hp → Prop) (N : Hp → Prop), xs[i]? = some x → Same H H' → (∀ y H4, f i x = some y → Same H' H4 → R y H4) → (∀ H4, f i x = none → Same H' H4 → N H4) →
      g x (wipe σ vs) H' fun σ2 H2 => wipe σ2 vs = wipe σ vs ∧ tt σ2 H2 fun b H3 => if b = true then te σ2 H3 R else N H3)
    (q : ∀ D H', H D = none → H' D = some (.lst ((xs.zipIdx.filterMap fun p => f p.2 p.1))) → Same H H' → Q (.ref D) H') :
    LcT (Itl K a) g tt te vs σ H Q := by
  intro D hD
  have step : ∀ i x, xs[i]? = some x → (xs.zipIdx.take (i + 1)) = xs.zipIdx.take i ++ [(x, i)] := fun i x e => by
    have hi : i < xs.length := (List.getElem?_eq_some_iff.mp e).1
    rw [List.take_succ_eq_append_getElem (by rw [List.length_zipIdx]; exact hi), List.getElem_zipIdx]
    have := (List.getElem?_eq_some_iff.mp e).2
    rw [this, Nat.zero_add]
  have lenT : ∀ i, i ≤ xs.length → ((xs.zipIdx.take i).filterMap fun p => f p.2 p.1).length ≤ i := fun i hi =>
    Nat.le_trans (List.length_filterMap_le _ _) (by rw [List.length_take]; exact Nat.min_le_left _ _)
  refine lc_list (fun i H' => Same H H' ∧ H' D = some (.lst ((xs.zipIdx.take i).filterMap fun p => f p.2 p.1))) ⟨same_upd hD, upd_same⟩ (fun i H' _ p => SqL_same p.1 h) (fun i x H' e p => ?_) (fun H' p => ?_)
  · have hi : i < xs.length := (List.getElem?_eq_some_iff.mp e).1
    refine hs i x H' _ _ e p.1 (fun y H4 ey s4 => ⟨_, s4 _ _ p.2, Nat.lt_of_le_of_lt (lenT i (Nat.le_of_lt hi)) (Nat.lt_of_lt_of_le hi hz), ?_, ?_⟩) (fun H4 ey s4 => ⟨p.1.trans s4, ?_⟩)
    · intro b o eb
      rw [upd_ne (ne_of_none eb hD)]
      exact s4 _ _ (p.1 _ _ eb)
    · rw [step i x e, List.filterMap_append]
      have : List.filterMap (fun p : V × Nat => f p.2 p.1) [(x, i)] = [y] := by
        rw [List.filterMap_cons_some (by exact ey)]
        rfl
      rw [this]
      exact upd_same
    · rw [step i x e, List.filterMap_append]
      have : List.filterMap (fun p : V × Nat => f p.2 p.1) [(x, i)] = [] := by
        rw [List.filterMap_cons_none (by exact ey)]
        rfl
      rw [this, List.append_nil]
      exact s4 _ _ p.2
  · refine q D H' hD ?_ p.1
    have := p.2
    rw [List.take_of_length_le (by rw [List.length_zipIdx]; exact Nat.le_refl _)] at this
    exact this
theorem zipIdx_map {α β : Type} (f : α → β) : ∀ (xs : List α) (n : Nat), (xs.zipIdx n).filterMap (fun p => some (f p.1)) = xs.map f
  | [], _ => rfl
  | x :: xs, n => by
    show List.filterMap (fun p => some (f p.1)) ((x, n) :: xs.zipIdx (n + 1)) = _
    have e : ∀ (l : List (α × Nat)), List.filterMap (fun p => some (f p.1)) l = l.map fun p => f p.1 := fun l => by rw [← List.filterMap_eq_map]; rfl
    have ih := zipIdx_map f xs (n + 1)
    rw [e] at ih ⊢
    rw [List.map_cons, ih, List.map_cons]
theorem zipIdx_fm {α β : Type} (f : α → Option β) : ∀ (xs : List α) (n : Nat), (xs.zipIdx n).filterMap (fun p => f p.1) = xs.filterMap f
  | [], _ => rfl
  | x :: xs, n => by
    show List.filterMap (fun p => f p.1) ((x, n) :: xs.zipIdx (n + 1)) = _
    rw [List.filterMap_cons, List.filterMap_cons, zipIdx_fm f xs (n + 1)]
/-- [elt for x in a list] -/
theorem lc_map {a : Addr} {xs : List V} {g : TG} {te : TE} {vs : List Nat} (h : SqL K H a xs) (hz : xs.length ≤ sizeLine) (f : V → V)
    (hs : ∀ (x : V) (H' : Hp) (R : V → Hp → Prop), x ∈ xs → Same H H' → (∀ H4, Same H' H4 → R (f x) H4) → g x (wipe σ vs) H' fun σ2 H2 => wipe σ2 vs = wipe σ vs ∧ te σ2 H2 R)
    (q : ∀ D H', H D = none → H' D = some (.lst (xs.map f)) → Same H H' → Q (.ref D) H') :
    LcT (Itl K a) g tYes te vs σ H Q := by
  refine lc_fm (tt := tYes) h hz (fun _ x => some (f x)) (fun i x H' R N e s c1 c2 => ?_) (fun D H' hD e s => q D H' hD ?_ s)
  · have z := hs x H' R (List.mem_of_getElem? e) s (fun H4 s4 => c1 _ H4 rfl s4)
    have eq : (fun (σ2 : L2.St) (H2 : Hp) => wipe σ2 vs = wipe σ vs ∧ tYes σ2 H2 fun b H3 => if b = true then te σ2 H3 R else N H3) = fun σ2 H2 => wipe σ2 vs = wipe σ vs ∧ te σ2 H2 R := by
      funext σ2 H2
      show (wipe σ2 vs = wipe σ vs ∧ if true = true then te σ2 H2 R else N H2) = _
      rw [if_pos rfl]
    rw [eq]
    exact z
  · rw [e, zipIdx_map]
/-- [elt for i in range(..) if ..] -/
theorem lc_fmR {lo : Int} {n : Nat} {g : TG} {tt : TT} {te : TE} {vs : List Nat} (hz : n ≤ sizeLine) (f : Nat → Option V)
    (hs : ∀ (i : Nat) (H' : Hp) (R : V → Hp → Prop) (N : Hp → Prop), i < n → Same H H' → (∀ y H4, f i = some y → Same H' H4 → R y H4) → (∀ H4, f i = none → Same H' H4 → N H4) →
      g (.int (lo + i)) (wipe σ vs) H' fun σ2 H2 => wipe σ2 vs = wipe σ vs ∧ tt σ2 H2 fun b H3 => if b = true then te σ2 H3 R else N H3)
    (q : ∀ D H', H D = none → H' D = some (.lst ((List.range n).filterMap f)) → Same H H' → Q (.ref D) H') :
    LcT (Itr lo n) g tt te vs σ H Q := by
  intro D hD
  refine lc_range (fun i H' => Same H H' ∧ H' D = some (.lst ((List.range i).filterMap f))) ⟨same_upd hD, upd_same⟩ (fun i H' hi p => ?_) (fun H' p => q D H' hD p.2 p.1)
  refine hs i H' _ _ hi p.1 (fun y H4 ey s4 => ⟨_, s4 _ _ p.2, Nat.lt_of_le_of_lt (Nat.le_trans (List.length_filterMap_le _ _) (by rw [List.length_range]; exact Nat.le_refl _)) (Nat.lt_of_lt_of_le hi hz), ?_, ?_⟩) (fun H4 ey s4 => ⟨p.1.trans s4, ?_⟩)
  · intro b o eb
    rw [upd_ne (ne_of_none eb hD)]
    exact s4 _ _ (p.1 _ _ eb)
  · rw [List.range_succ, List.filterMap_append, List.filterMap_cons_some (by exact ey)]
    exact upd_same
  · rw [List.range_succ, List.filterMap_append, List.filterMap_cons_none (by exact ey)]
    show H4 D = some (.lst (_ ++ []))
    rw [List.append_nil]
    exact s4 _ _ p.2

/-! ### lists -/
theorem all_l {p : Addr} {bs : List Bool} (C : Ctx P w K mg base k X W) (h : SqL K H p (bs.map V.bl)) (q : Q (.bl (bs.all id)) H) : CV X (.builtin "all") [.ref p] σ H Q := by
  have hK := C.K
  subst hK
  exact .of (cr_all C.c) ⟨p, bs, rfl, h, q⟩
theorem any_l {p : Addr} {bs : List Bool} (C : Ctx P w K mg base k X W) (h : SqL K H p (bs.map V.bl)) (q : Q (.bl (bs.any id)) H) : CV X (.builtin "any") [.ref p] σ H Q := by
  have hK := C.K
  subst hK
  exact .of (cr_any C.c) ⟨p, bs, rfl, h, q⟩
theorem sum_l {p : Addr} {ns : List Int} (C : Ctx P w K mg base k X W) (h : SqL K H p (ns.map V.int)) (q : Q (.int ns.sum) H) : CV X (.builtin "sum") [.ref p] σ H Q := by
  have hK := C.K
  subst hK
  exact .of (cr_sum C.c) ⟨p, ns, rfl, h, q⟩
theorem list_l {p : Addr} {xs : List V} (C : Ctx P w K mg base k X W) (h : SqL K H p xs) (q : ∀ l, H l = none → Q (.ref l) (upd H l (.lst xs))) : CV X (.type "list") [.ref p] σ H Q := by
  have hK := C.K
  subst hK
  exact .of call_list_of ⟨p, xs, rfl, .inl h, q⟩
theorem list_t {p : Addr} {xs : List V} (C : Ctx P w K mg base k X W) (h : SqT K H p xs) (q : ∀ l, H l = none → Q (.ref l) (upd H l (.lst xs))) : CV X (.type "list") [.ref p] σ H Q := by
  have hK := C.K
  subst hK
  exact .of call_list_of ⟨p, xs, rfl, .inr h, q⟩
theorem app_m {l : Addr} {xs : List V} {y : V} (h : H l = some (.lst xs)) (hz : xs.length < sizeLine) (q : Q .non (upd H l (.lst (xs ++ [y])))) : CV X (.builtin "list.append") [.ref l, y] σ H Q := .ofM mt_append ⟨l, xs, y, rfl, rfl, h, hz, q⟩
theorem s_mApp {te : TE} {tA : TA} (q : te σ H fun x H1 => ∃ l xs, x = .ref l ∧ H1 l = some (.lst xs) ∧ tA σ H1 fun vs H2 => CV X (.builtin "list.append") (.ref l :: vs) σ H2 Q) : True := trivial
theorem cat_l {l b : Addr} {xs zs : List V} (h1 : H l = some (.lst xs)) (h2 : H b = some (.lst zs)) (hz : xs.length + zs.length ≤ sizeLine) (q : ∀ p, H p = none → Q (.ref p) (upd H p (.lst (xs ++ zs)))) : O2 X (binaryOp .Add) (.ref l) (.ref b) σ H Q :=
  .of op_cat ⟨l, b, xs, zs, rfl, rfl, h1, h2, hz, q⟩
theorem rep_l {l : Addr} {xs : List V} {n : Int} (h1 : H l = some (.lst xs)) (ha : -(2 ^ 63) ≤ n) (hb : n < 2 ^ 63) (hz : xs.length * n.toNat ≤ sizeLine) (q : ∀ p, H p = none → Q (.ref p) (upd H p (.lst (List.replicate n.toNat xs).flatten))) : O2 X (binaryOp .Mult) (.ref l) (.int n) σ H Q :=
  .of op_rep ⟨l, n, xs, rfl, rfl, h1, ha, hb, hz, q⟩
theorem slc_l {p : Addr} {xs : List V} {lo hi : Option Int} (C : Ctx P w K mg base k X W) (h : SqL K H p xs) (q : ∀ l, H l = none → Q (.ref l) (upd H l (.lst (cutV xs lo hi)))) : Slc X (.ref p) lo hi σ H Q := by
  have hK := C.K
  subst hK
  exact fun pins s v vl vu sl I rx hs pl pu => sl_list pins s σ H (.ref p) v vl vu lo hi sl Q I rx hs pl pu ⟨p, xs, rfl, h, q⟩
theorem bool_v {x : V} : True := trivial

/-! ### truth by an own __bool__ -/
theorem tru_own {a Cc dx f : Addr} {fs : List (Str × V)} {ps : List Str} {sp : Sp} {j : Nat} {R : Bool → Hp → Prop} (C : Ctx P w K mg base k X W) (h : H a = some (.ins Cc dx fs)) (M : Meth K Cc "__bool__" f) (F : FnS P w K mg base f j ps sp) (hj : j ≤ k)
    (q : sp [.ref a] H (fun v H' => ∃ b, v = .bl b ∧ R b H') (WE W σ)) : Tr X (.ref a) σ H R := by
  obtain ⟨rfl, rfl, rfl, rfl, rfl, hr, tk, _⟩ := C
  intro pins s v I rx
  cases rx
  obtain ⟨mA, J, _⟩ := ins_get I.hok h
  obtain ⟨od, J, _⟩ := J.look
  obtain ⟨m, hF⟩ := I.fr
  refine PySem.W.truthy_K hF I.ok.mod.kin J M.at_ M.fn ?_
  exact thn (run_in F (hr.mono hj) I.ok.frames tk I (.cons (show RelV (.ref a) (.ref a) from rfl) .nil) q) fun r s' ⟨z, H', I', rz, b, ez, q'⟩ => by
    subst ez
    cases rz
    exact ⟨H', I', q'⟩
/-- bool(an instance with an own __bool__) -/
theorem bool_own {a Cc dx f : Addr} {fs : List (Str × V)} {ps : List Str} {sp : Sp} {j : Nat} (C : Ctx P w K mg base k X W) (h : H a = some (.ins Cc dx fs)) (M : Meth K Cc "__bool__" f) (Fn : FnS P w K mg base f j ps sp) (hj : j + 2 ≤ k)
    (q : sp [.ref a] H (fun v H' => ∃ b, v = .bl b ∧ Q (.bl b) H') (WE W σ)) : CV X (.type "bool") [.ref a] σ H Q := by
  obtain ⟨rfl, rfl, rfl, rfl, rfl, hr, tk, _⟩ := C
  intro pins s us I rv
  obtain rfl := Vals.ref1 rv
  obtain ⟨mA, J, _⟩ := ins_get I.hok h
  obtain ⟨od, J, _⟩ := J.look
  obtain ⟨m, hF⟩ := I.fr
  have hr1 : Room j X.A.in1.in1 := (hr.mono hj).in1.in1
  have run : wpAny (model X.prog X.w) X.A.in1.in1 (truthy (.ref a)) (fun b s' => EP X pins σ Q (.bool b) s') X.xe s := by
    refine PySem.W.truthy_K hF I.ok.mod.kin J M.at_ M.fn ?_
    exact thn (run_in Fn hr1 (by exact I.ok.frames) tk I (.cons (show RelV (.ref a) (.ref a) from rfl) .nil) q) fun r s' ⟨z, H', I', rz, b, ez, q'⟩ => by
      subst ez
      cases rz
      exact ⟨.bl b, H', I', rfl, q'⟩
  have g : MeetsIn X.prog X.w (Builtin.«bool.__new__» ⟨[.type "bool", .ref a], []⟩) (fun A R s => wpAny (model X.prog X.w) A.in1 (truthy (.ref a)) (fun b s' => R (.ok (.ret (.bool b))) s') (fun e s' => R (.error e) s') s) := .of_wp fun A R s hs => by
    obtain ⟨hp, g, d, tk, os⟩ := s
    have f1 := PySem.F.conv_sub_bool
    repeat (any_goals (first | assumption | (with_reducible refine wpAny_mono hs (fun b s' h => ?_) (fun e s' h => ?_)) | wp_step))
    all_goals exact ⟨_, rfl, h⟩
  refine callType_newIn PySem.F.called_bool PySem.F.newNe_bool (PySem.F.typeCall_bool_1 _) (PySem.F.newCall_bool_1 _) (fun obj => PySem.F.args_object_init_2 obj _) PySem.F.entry_bool_new g ?_
  show wpAny _ _ _ _ _ _
  refine wpAny_mono run (fun b s' h => ?_) (fun e s' h => ?_)
  · exact ⟨rfl, h⟩
  · exact h
theorem isi_excT {a D : Addr} {oe : Obj} {T : String} {pn : List (Addr × Obj)} {b : Bool} (C : Ctx P w K mg base k X W) (e : ExcC K D) (hz : Zc (.ref D) none oe) (hf : ∃ vs, oe.data = .fields vs)
    (kk : PySem.W.kitOne K (.ref D) (.type T) = some b) (q : Q (.bl b) H) : CV (X.suite a ((a, oe) :: pn)) (.builtin "isinstance") [.ref a, .ty T] σ H Q := by
  have hK := C.K
  subst hK
  exact CV.of (call_isE e hz hf) ⟨.ty T, .type T, b, rfl, fun u r => r, kk, q⟩
theorem mth_append {p : Addr} {xs : List V} (C : Ctx P w K mg base k X W) (h : SqL K H p xs) : Mth X "append" (.ref p) H (.builtin "list.append") := by
  have hK := C.K
  subst hK
  exact .blt PySem.F.plainAttrs_list PySem.F.slot_list_append PySem.F.type_list_append (.inl ⟨rfl, xs, h⟩)
/-- an expression with one value, whatever comes behind -/
theorem te_val {te : TE} (v : V) (h : ∀ Q' : VK, (∀ H', Same H H' → Q' v H') → te σ H Q') (q : ∀ H', Same H H' → Q v H') : te σ H Q := h Q q
/-- the same of a test -/
theorem tt_val {tt : TT} {R : Bool → Hp → Prop} (b : Bool) (h : ∀ R' : Bool → Hp → Prop, (∀ H', Same H H' → R' b H') → tt σ H R') (q : ∀ H', Same H H' → R b H') : tt σ H R := h R q
theorem s_ifSv {tt : TT} {t u : TS} {D : Ends} (b : Bool) (h : ∀ R' : Bool → Hp → Prop, (∀ H', Same H H' → R' b H') → tt σ H R') (q : ∀ H', Same H H' → if b = true then t D σ H' else u D σ H') : tIfS tt t u D σ H := h _ q
theorem at_last {xs : List V} {v : V} (h : xs.getLast? = some v) : atI xs (-1) = some v := by
  have hl : 0 < xs.length := by
    cases xs with
    | nil => cases h
    | cons a l => exact Nat.succ_pos _
  unfold atI ixN
  rw [if_neg (by decide), if_pos (by omega)]
  show xs[(-1 + (xs.length : Int)).toNat]? = some v
  rw [show (-1 + (xs.length : Int)).toNat = xs.length - 1 from by omega, ← List.getLast?_eq_getElem?]
  exact h
/-- an expression whose value and heap are of a kind -/
theorem te_any {te : TE} (Pp : V → Hp → Prop) (h : ∀ Q' : VK, (∀ v H', Pp v H' → Q' v H') → te σ H Q') (q : ∀ v H', Pp v H' → Q v H') : te σ H Q := h Q q
theorem get_l {p : Addr} {xs : List V} {i : Int} {v : V} (C : Ctx P w K mg base k X W) (h : SqL K H p xs) (e : atI xs i = some v) (q : Q v H) : O2 X getItem (.ref p) (.int i) σ H Q := by
  obtain ⟨rfl, rfl, rfl, rfl, rfl, hr, tk, _⟩ := C
  intro pins s v' u I rx ry
  cases rx
  obtain ⟨t, rfl⟩ := ry
  obtain ⟨its, r, pl, hz⟩ := I.list h
  obtain ⟨j, h1, h2, h3, h4, h5⟩ := atI_get e
  obtain ⟨w', ew, rw'⟩ := r.get h2
  have hl := r.length
  have hn := line63
  have fin : EP X pins σ Q w' s := ⟨v, H, I, rw', q⟩
  by_cases h0 : 0 ≤ i
  · have hj : i.toNat = j := by
      rw [seqIndex_of h0 h5] at h1
      exact Option.some.inj h1
    exact wpAny_getItem_list pl.isList h0 (by omega) (by rw [hj]; simpa using ew) fin
  · have hj : (i + (its.toArray.size : Int)).toNat = j := by
      rw [seqIndex_neg (by omega) h4] at h1
      rw [List.size_toArray, ← hl]
      exact Option.some.inj h1
    exact wpAny_getItem_list_neg pl.isList (by omega) (by rw [List.size_toArray] <;> omega) (by omega) (by rw [hj]; simpa using ew) fin
theorem iadd_ii {i j : Int} (q : Q (.int (i + j)) H) : O2 X (inplaceOp .Add) (.int i) (.int j) σ H Q := .of iop_add ⟨i, j, rfl, rfl, q⟩
theorem isub_ii {i j : Int} (q : Q (.int (i - j)) H) : O2 X (inplaceOp .Sub) (.int i) (.int j) σ H Q := .of iop_sub ⟨i, j, rfl, rfl, q⟩
theorem in_l {p : Addr} {x : V} {xs : List V} (C : Ctx P w K mg base k X W) (h : SqL K H p xs) (fx : flatV x = true) (fs : xs.all flatV = true) (q : Q (.bl (inV x xs)) H) : O2 X (compareOp .In) x (.ref p) σ H Q := by
  have hK := C.K
  subst hK
  exact .of op_in_seq ⟨p, xs, rfl, .inl h, fx, fs, q⟩
theorem notin_l {p : Addr} {x : V} {xs : List V} (C : Ctx P w K mg base k X W) (h : SqL K H p xs) (fx : flatV x = true) (fs : xs.all flatV = true) (q : Q (.bl (!inV x xs)) H) : O2 X (compareOp .NotIn) x (.ref p) σ H Q := by
  have hK := C.K
  subst hK
  exact .of op_notIn_seq ⟨p, xs, rfl, .inl h, fx, fs, q⟩
end
end Vc

namespace Vc
open PySem PySem.Spec PyProof.Rows L2
/-! ### numbers, draws -/
section
variable {K : PySem.W.Frag}
def isCnt : V → Bool
  | .int i => decide (0 ≤ i)
  | _ => false
def numV : V → Bool
  | .int _ => true
  | .bl _ => true
  | _ => false
/-- whether a value is an int can be told -/
structure NumK (K : PySem.W.Frag) (H : Hp) (x : V) (t : Value) : Prop where
  ty : TyX K H x t
  no : numV x = false → PySem.W.kitOne K t (.type "int") = some false
theorem NumK.same {H H' : Hp} {x : V} {t : Value} (n : NumK K H x t) (s : Same H H') : NumK K H' x t := ⟨Same_ty s n.ty, n.no⟩
theorem NumK.int {H : Hp} {i : Int} : NumK K H (.int i) (.type "int") := ⟨.base (.int i), fun h => by cases h⟩
theorem ty_int {H : Hp} {i : Int} {t : Value} (h : TyX K H (.int i) t) : t = .type "int" := by
  cases h with
  | base h => cases h; rfl
theorem ty_bl {H : Hp} {b : Bool} {t : Value} (h : TyX K H (.bl b) t) : t = .type "bool" := by
  cases h with
  | base h => cases h; rfl
def spIsCount (K : PySem.W.Frag) : Sp := fun vs H Q _ => ∃ x t, vs = [x] ∧ NumK K H x t ∧ Q (.bl (isCnt x)) H
def isNum (lo hi : Int) : V → Bool
  | .int i => decide (lo ≤ i) && decide (i ≤ hi)
  | _ => false
def spIsNumber (K : PySem.W.Frag) : Sp := fun vs H Q _ => ∃ x t lo hi, vs = [x, .int lo, .int hi] ∧ NumK K H x t ∧ Q (.bl (isNum lo hi x)) H
def spIsColour (K : PySem.W.Frag) : Sp := fun vs H Q _ => ∃ x t, vs = [x] ∧ NumK K H x t ∧ Q (.bl (isNum 0 1 x)) H
theorem b01 (c : Bool) : -(2 ^ 64) < (if c = true then (1 : Int) else 0) ∧ (if c = true then (1 : Int) else 0) < 2 ^ 64 := by cases c <;> decide
theorem small_div {j : Int} (h : j.natAbs < 2 ^ 250) : j.natAbs < 2 ^ 9000 := Nat.lt_of_lt_of_le h (Nat.pow_le_pow_right (by decide) (by decide))
/-- a stream of draws stands at l -/
def Str2 (H : Hp) (l : Addr) : Prop := ∃ a b : Int, H l = some (.lst [.int a, .int b]) ∧ 0 ≤ b ∧ b < 2147483648
theorem Str2.upd {H : Hp} {l p : Addr} {o : HO} (h : Str2 H l) (n : p ≠ l) : Str2 (L2.upd H p o) l := let ⟨a, b, e, h⟩ := h; ⟨a, b, by rw [upd_ne (Ne.symm n)]; exact e, h⟩
def spStream (K : PySem.W.Frag) : Sp := fun vs H Q _ => ∃ (a : Addr) (ns : List Int) (k : Nat), vs = [.ref a, .int k] ∧ SqL K H a (ns.map V.int) ∧ k < 64 ∧ ∀ p H', H p = none → Same H H' → Str2 H' p → Q (.ref p) H'
def spDraw : Sp := fun vs H Q _ => ∃ (l : Addr) (n : Int), vs = [.ref l, .int n] ∧ Str2 H l ∧ 0 < n ∧ n.natAbs < 2 ^ 9000 ∧ ∀ (r : Int) H', 0 ≤ r → r < n → SameX l H H' → Str2 H' l → Q (.int r) H'
end
end Vc

namespace Vc
open PySem PySem.Spec PyProof.Rows L2

/-! ### strings -/
/-- the string of these code points -/
def tx (l : List Nat) : Str := ⟨l.toArray⟩
theorem tx_inj {a b : List Nat} (h : tx a = tx b) : a = b := by
  have := congrArg (fun s : Str => s.cps.toList) h
  simpa [tx] using this
theorem tx_len (l : List Nat) : (tx l).length = l.length := by unfold tx; simp [Str.length]
theorem tx_app (a b : List Nat) : tx a ++ tx b = tx (a ++ b) := by
  show Str.append _ _ = _
  unfold Str.append tx
  simp
theorem tx_dec (a b : List Nat) : decide (V.str (tx a) = V.str (tx b)) = decide (a = b) := by
  by_cases h : a = b
  · rw [h, decide_eq_true rfl, decide_eq_true rfl]
  · rw [decide_eq_false h, decide_eq_false]
    intro e
    exact h (tx_inj (V.str.inj e))
section
variable {P : Program} {w : World} {K : PySem.W.Frag} {mg : Str → Option Value} {base : Heap} {k : Nat} {X : Cx} {W : WX} {σ : L2.St} {H : Hp} {Q : VK}
theorem eq_tx {a b : List Nat} (q : Q (.bl (decide (a = b))) H) : O2 X (compareOp .Eq) (.str (tx a)) (.str (tx b)) σ H Q := eq_sc rfl (by rw [tx_dec]; exact q)
theorem ne_tx {a b : List Nat} (q : Q (.bl (!decide (a = b))) H) : O2 X (compareOp .NotEq) (.str (tx a)) (.str (tx b)) σ H Q := ne_sc rfl (by rw [tx_dec]; exact q)
theorem add_tx {a b : List Nat} (h : a.length + b.length ≤ sizeLine) (q : Q (.str (tx (a ++ b))) H) : O2 X (binaryOp .Add) (.str (tx a)) (.str (tx b)) σ H Q :=
  .of op_add_str ⟨_, _, rfl, rfl, by rw [tx_len, tx_len]; exact h, by rw [tx_app]; exact q⟩
theorem len_tx {a : List Nat} (h : a.length ≤ sizeLine) (q : Q (.int a.length) H) : CV X (.builtin "len") [.str (tx a)] σ H Q := .of call_len ⟨_, a.length, rfl, ⟨by rw [tx_len]; exact h, (tx_len a).symm⟩, q⟩
theorem ix_tx {a : List Nat} {i : Int} {c : Nat} (h : a.length ≤ sizeLine) (e : atI a i = some c) (q : Q (.str (tx [c])) H) : Ix X (.str (tx a)) (.int i) σ H Q :=
  .of ix_str ⟨_, i, c, rfl, rfl, by rw [tx_len]; exact h, by show atI (tx a).cps.toList i = some c; rw [show (tx a).cps.toList = a from List.toList_toArray]; exact e, q⟩
theorem foldl_rep (c : Nat) : ∀ (n : Nat) (acc : Array Nat), (List.replicate n #[c]).foldl (· ++ ·) acc = acc ++ (List.replicate n c).toArray
  | 0, acc => by simp
  | n + 1, acc => by
    rw [List.replicate_succ, List.foldl_cons, foldl_rep c n]
    apply Array.ext'
    simp [List.replicate_succ]
theorem mul_tx1 {c : Nat} {n : Int} (h0 : 0 ≤ n) (h1 : n ≤ 100000) (q : Q (.str (tx (List.replicate n.toNat c))) H) : O2 X (binaryOp .Mult) (.str (tx [c])) (.int n) σ H Q := by
  intro pins s v u I rx ry
  obtain ⟨t, rfl⟩ := rx
  obtain ⟨t', rfl⟩ := ry
  have hl : (tx [c]).length = 1 := rfl
  refine PySem.P.mul_str (by rw [decide_eq_false (by omega), decide_eq_false (by omega)]; rfl) (fun a b => ?_) (fun a b => ?_) ?_
  · rw [hl]
    have : n ≤ 2 ^ 63 - 1 := by omega
    have h3 : 1 ≤ (2 ^ 63 - 1) / n := by
      rw [Int.le_ediv_iff_mul_le (by omega)]
      omega
    omega
  · rw [hl]
    show decide _ = false
    simp only [decide_eq_false_iff_not, Nat.one_mul]
    have : sizeLine = 16777216 := sizeLine_eq
    omega
  · by_cases a : n < 1
    · rw [if_pos a]
      have e : n.toNat = 0 := by omega
      rw [e] at q
      exact ⟨by decide, .str _, H, I.tok _, ⟨_, rfl⟩, q⟩
    · rw [if_neg a]
      by_cases b : n = 1
      · subst b
        rw [if_pos (by simp : ((1 : Int) == 1 || (tx [c]).length == 0) = true)]
        exact ⟨.str _, H, I, ⟨_, rfl⟩, q⟩
      · rw [if_neg (by rw [hl]; simp [b])]
        have e : (⟨(List.replicate n.toNat (tx [c]).cps).foldl (· ++ ·) #[]⟩ : Str) = tx (List.replicate n.toNat c) := by
          unfold tx
          rw [show ([c].toArray : Array Nat) = #[c] from rfl, foldl_rep]
          simp
        rw [e]
        refine ⟨?_, .str _, H, I.tok _, ⟨_, rfl⟩, q⟩
        rw [tx_len, List.length_replicate]
        exact sz2 (by omega)
/-- a text walked -/
theorem it_s {x : Str} {R : It → Hp → Prop} (q : R (Its x) H) : IterV X (.str x) σ H R := fun tg pins s v I rx => by
  obtain ⟨t, rfl⟩ := rx
  cases ha : x.cps.all (· < 128)
  · exact wpAny_pyIter_wide ha (pi_one (tk := s.toks) I _ (turn_str _ x t "str_iterator" (.inr rfl)) ⟨_, Heap.get?_push_size _ rfl, rfl, rfl⟩ q)
  · exact wpAny_pyIter_ascii ha (pi_one (tk := s.toks) I _ (turn_str _ x t "str_ascii_iterator" (.inl rfl)) ⟨_, Heap.get?_push_size _ rfl, rfl, rfl⟩ q)
theorem its_at {a : List Nat} {i : Nat} {c : Nat} (h : (tx a).cps[i]? = some c) : a[i]? = some c := by
  have e : (tx a).cps.toList[i]? = some c := by rw [Array.getElem?_toList]; exact h
  exact e
/-- a loop over a text -/
theorem lp_tx {a : List Nat} {g : TG} {tb : TS} {D : Ends} (Pv : Nat → L2.St → Hp → Prop) (h0 : Pv 0 σ H)
    (hs : ∀ i c σ H, a[i]? = some c → Pv i σ H → g (.str (tx [c])) σ H fun σ2 H2 => tb { D with nx := Pv (i + 1), ct := Pv (i + 1), bk := D.nx } σ2 H2) (hd : ∀ σ H, Pv a.length σ H → D.nx σ H) : Lp (Its (tx a)) g tb D σ H := by
  refine ⟨fun i m σ H => m = a.length - i ∧ i ≤ a.length ∧ Pv i σ H, ⟨a.length, by simp, Nat.zero_le _, h0⟩, ?_⟩
  rintro i m σ H ⟨rfl, hi, p⟩
  have hsz : (tx a).cps.size = a.length := tx_len a
  by_cases hlt : i < a.length
  · refine .inr ⟨by show i < (tx a).cps.size; omega, Pv (i + 1), fun σ' H' p' => ⟨a.length - (i + 1), by omega, rfl, hlt, p'⟩, fun x H' y => ?_⟩
    obtain ⟨e, c, hc, ex⟩ := y
    subst e ex
    exact hs i c _ _ (its_at hc) p
  · have e : i = a.length := by omega
    subst e
    exact .inl ⟨by show (tx a).cps.size ≤ a.length; omega, hd _ _ p⟩
/-- [elt for c in a text] -/
theorem lc_tx {a : List Nat} {g : TG} {te : TE} {vs : List Nat} (hz : a.length ≤ sizeLine) (f : Nat → V)
    (hs : ∀ (c : Nat) (H' : Hp) (R : V → Hp → Prop), c ∈ a → Same H H' → (∀ H4, Same H' H4 → R (f c) H4) → g (.str (tx [c])) (wipe σ vs) H' fun σ2 H2 => wipe σ2 vs = wipe σ vs ∧ te σ2 H2 R)
    (q : ∀ D H', H D = none → H' D = some (.lst (a.map f)) → Same H H' → Q (.ref D) H') : LcT (Its (tx a)) g tYes te vs σ H Q := by
  intro D hD
  have hsz : (tx a).cps.size = a.length := tx_len a
  refine ⟨fun i m H' => m = a.length - i ∧ i ≤ a.length ∧ Same H H' ∧ H' D = some (.lst ((a.take i).map f)), ⟨a.length, by simp, Nat.zero_le _, same_upd hD, upd_same⟩, ?_⟩
  rintro i m H' ⟨rfl, hi, s, hl⟩
  by_cases hlt : i < a.length
  · refine .inr ⟨by show i < (tx a).cps.size; omega, fun H2 => Same H H2 ∧ H2 D = some (.lst ((a.take (i + 1)).map f)), fun H2 p' => ⟨a.length - (i + 1), by omega, rfl, hlt, p'⟩, fun x H2 y => ?_⟩
    obtain ⟨e, c, hc, ex⟩ := y
    subst e ex
    have ec := its_at hc
    have eq : ∀ (R : V → Hp → Prop) (N : Hp → Prop), (fun (σ2 : L2.St) (H2 : Hp) => wipe σ2 vs = wipe σ vs ∧ tYes σ2 H2 fun b H3 => if b = true then te σ2 H3 R else N H3) = fun σ2 H2 => wipe σ2 vs = wipe σ vs ∧ te σ2 H2 R := fun R N => by
      funext σ2 H2
      show (wipe σ2 vs = wipe σ vs ∧ if true = true then te σ2 H2 R else N H2) = _
      rw [if_pos rfl]
    rw [eq]
    refine hs c H2 _ (List.mem_of_getElem? ec) s fun H4 s4 => ⟨_, s4 _ _ hl, ?_, ?_, ?_⟩
    · rw [List.length_map, List.length_take]
      omega
    · intro b o eb
      rw [upd_ne (ne_of_none eb hD)]
      exact s4 _ _ (s _ _ eb)
    · have e1 : a.take (i + 1) = a.take i ++ [c] := by
        rw [List.take_succ_eq_append_getElem hlt]
        have := (List.getElem?_eq_some_iff.mp ec).2
        rw [this]
      rw [e1, List.map_append]
      exact upd_same
  · have e : i = a.length := by omega
    subst e
    rw [List.take_of_length_le (Nat.le_refl _)] at hl
    exact .inl ⟨by show (tx a).cps.size ≤ a.length; omega, q D H' hD hl s⟩
theorem str_i {i : Int} (h : i.natAbs.log2 < 1920) (q : Q (.str (toString i)) H) : CV X (.type "str") [.int i] σ H Q := .of call_str_int ⟨i, rfl, h, q⟩
theorem int_s {x : Str} {n : Int} (h : PySem.intText? x = some n) (hl : x.length ≤ 640) (q : Q (.int n) H) : CV X (.type "int") [.str x] σ H Q := .of call_int_str ⟨x, n, rfl, h, hl, q⟩
theorem in_tx {c : Nat} {a : List Nat} (q : Q (.bl (decide (c ∈ a))) H) : O2 X (compareOp .In) (.str (tx [c])) (.str (tx a)) σ H Q := .of op_in_sign ⟨c, tx a, rfl, rfl, q⟩
theorem notin_s {x y : Str} (q : Q (.bl (!(!(Builtin.Str.occurrences y x 0 y.length 1).isEmpty))) H) : O2 X (compareOp .NotIn) (.str x) (.str y) σ H Q := .of op_notIn_str ⟨x, y, rfl, rfl, q⟩
theorem rev_tx {te : TE} (q : te σ H fun x H1 => (∃ a xs, x = .ref a ∧ SqL K H1 a xs ∧ ∀ p, H1 p = none → Q (.ref p) (upd H1 p (.lst xs.reverse))) ∨ ∃ z : Str, x = .str z ∧ z.length ≤ sizeLine ∧ Q (.str ⟨z.cps.toList.reverse.toArray⟩) H1) : tRevA K te σ H Q := q
end
end Vc

namespace Vc
open PySem PySem.Spec PyProof.Rows L2

/-! ### texts of 0 and 1, their runs -/
def Bits (cs : List Nat) : Prop := ∀ c ∈ cs, c = 48 ∨ c = 49
def bump (ls : List Int) : List Int := ls.dropLast ++ [ls.getLast?.getD 0 + 1]
def stR (s : List Int × List Nat) (c : Nat) : List Int × List Nat := (if [c] = s.2 then bump s.1 else s.1 ++ [1], [c])
def goR (cs : List Nat) : List Int × List Nat := cs.foldl stR ([], [])
def runsR (cs : List Nat) : List Int := (goR cs).1
def firstR : List Nat → Int
  | [] => 0
  | c :: _ => (c : Int) - 48
def chg : Nat → List Nat → Nat
  | _, [] => 0
  | p, c :: cs => (if c = p then 0 else 1) + chg c cs
theorem bump_app (ls : List Int) (z : Int) : bump (ls ++ [z]) = ls ++ [z + 1] := by
  unfold bump
  simp
theorem sum_app (a b : List Int) : (a ++ b).sum = a.sum + b.sum := by
  induction a with
  | nil => simp
  | cons x a ih => rw [List.cons_append, List.sum_cons, List.sum_cons, ih, Int.add_assoc]
theorem go_inv : ∀ (cs : List Nat) (ls : List Int) (p : Nat), ls ≠ [] → (∀ n ∈ ls, 1 ≤ n) →
    (cs.foldl stR (ls, [p])).1.length = ls.length + chg p cs ∧ (cs.foldl stR (ls, [p])).1.sum = ls.sum + cs.length ∧ (∀ n ∈ (cs.foldl stR (ls, [p])).1, 1 ≤ n) ∧ (cs.foldl stR (ls, [p])).1 ≠ []
  | [], ls, p, h, a => ⟨by simp [chg], by simp, a, h⟩
  | c :: cs, ls, p, h, a => by
    rw [List.foldl_cons]
    obtain ⟨is, z, rfl⟩ : ∃ is z, ls = is ++ [z] := ⟨ls.dropLast, ls.getLast h, (List.dropLast_concat_getLast h).symm⟩
    by_cases e : c = p
    · subst e
      have st : stR (is ++ [z], [c]) c = (is ++ [z + 1], [c]) := by
        unfold stR
        rw [if_pos rfl, bump_app]
      rw [st]
      obtain ⟨i1, i2, i3, i4⟩ := go_inv cs (is ++ [z + 1]) c (by simp) (fun n hn => by
        rcases List.mem_append.mp hn with q | q
        · exact a n (List.mem_append_left _ q)
        · cases List.mem_singleton.mp q
          have := a z (List.mem_append_right _ (List.mem_singleton.mpr rfl))
          omega)
      refine ⟨?_, ?_, i3, i4⟩
      · rw [i1]
        show _ = _ + ((if c = c then 0 else 1) + chg c cs)
        rw [if_pos rfl, List.length_append, List.length_append]
        simp
      · rw [i2, sum_app, sum_app, List.length_cons]
        simp only [List.sum_cons, List.sum_nil]
        omega
    · have st : stR (is ++ [z], [p]) c = (is ++ [z] ++ [1], [c]) := by
        unfold stR
        rw [if_neg (by simpa using e)]
      rw [st]
      obtain ⟨i1, i2, i3, i4⟩ := go_inv cs (is ++ [z] ++ [1]) c (by simp) (fun n hn => by
        rcases List.mem_append.mp hn with q | q
        · exact a n q
        · cases List.mem_singleton.mp q
          decide)
      refine ⟨?_, ?_, i3, i4⟩
      · rw [i1]
        show _ = _ + ((if c = p then 0 else 1) + chg c cs)
        rw [if_neg e, List.length_append]
        simp only [List.length_cons, List.length_nil]
        omega
      · rw [i2, sum_app, List.length_cons]
        simp only [List.sum_cons, List.sum_nil]
        omega
theorem goR_cons (c : Nat) (cs : List Nat) : goR (c :: cs) = cs.foldl stR ([1], [c]) := by
  unfold goR
  rw [List.foldl_cons]
  congr 1
theorem runs_inv (c : Nat) (cs : List Nat) : (runsR (c :: cs)).length = 1 + chg c cs ∧ (runsR (c :: cs)).sum = 1 + cs.length ∧ (∀ n ∈ runsR (c :: cs), 1 ≤ n) ∧ runsR (c :: cs) ≠ [] := by
  unfold runsR
  rw [goR_cons]
  obtain ⟨a, b, d, e⟩ := go_inv cs [1] c (by simp) (fun n hn => by cases List.mem_singleton.mp hn; decide)
  exact ⟨by rw [a]; rfl, by rw [b]; simp, d, e⟩
theorem chg_le : ∀ (cs : List Nat) (p : Nat), chg p cs ≤ cs.length
  | [], _ => Nat.le_refl _
  | c :: cs, p => by
    have := chg_le cs c
    show (if c = p then 0 else 1) + chg c cs ≤ cs.length + 1
    split <;> omega
theorem le_sum : ∀ {ns : List Int}, (∀ n ∈ ns, 1 ≤ n) → 0 ≤ ns.sum ∧ ∀ n ∈ ns, n ≤ ns.sum
  | [], _ => ⟨by simp, fun n h => nomatch h⟩
  | m :: ns, h => by
    obtain ⟨a, b⟩ := le_sum fun n hn => h n (List.mem_cons_of_mem _ hn)
    have h1 := h m List.mem_cons_self
    rw [List.sum_cons]
    refine ⟨by omega, fun n hn => ?_⟩
    rcases List.mem_cons.mp hn with rfl | hn
    · omega
    · have := b n hn
      omega
theorem runs_ok {cs : List Nat} (hb : Bits cs) (hl : cs.length ≤ 2000) : (0 = firstR cs ∨ 1 = firstR cs) ∧ (runsR cs).length ≤ 2000 ∧ (∀ n ∈ runsR cs, 1 ≤ n ∧ n ≤ 2000) ∧ (runsR cs).sum = cs.length ∧ (runsR cs = [] → cs = []) := by
  cases cs with
  | nil => exact ⟨.inl rfl, by decide, (fun n h => absurd (show n ∈ ([] : List Int) from h) List.not_mem_nil), rfl, fun _ => rfl⟩
  | cons c cs =>
    obtain ⟨a, b, d, e⟩ := runs_inv c cs
    have hc := chg_le cs c
    rw [List.length_cons] at hl
    refine ⟨?_, by omega, fun n hn => ⟨d n hn, ?_⟩, by rw [b, List.length_cons]; omega, fun h => absurd h e⟩
    · rcases hb c List.mem_cons_self with rfl | rfl
      · exact .inl rfl
      · exact .inr rfl
    · have := (le_sum d).2 n hn
      omega
theorem fm_len {α β : Type} (f : α → Option β) : ∀ l : List α, (l.filterMap f).length = (l.map fun i => if (f i).isSome = true then 1 else 0).sum
  | [] => rfl
  | x :: l => by
    rw [List.filterMap_cons, List.map_cons, List.sum_cons, ← fm_len f l]
    cases f x with
    | none => simp
    | some y => simp; omega
def fG (cs : List Nat) (i : Nat) : Option V := if cs[i + 1]? = cs[i]? then none else some (.int (1 + (i : Int)))
theorem grp : ∀ (cs : List Nat) (c : Nat), ((List.range cs.length).map fun i => if (fG (c :: cs) i).isSome = true then 1 else 0).sum = chg c cs
  | [], _ => rfl
  | d :: cs, c => by
    rw [List.length_cons, List.range_succ_eq_map, List.map_cons, List.sum_cons, List.map_map]
    have ih := grp cs d
    have e : ((fun i => if (fG (c :: d :: cs) i).isSome = true then 1 else 0) ∘ Nat.succ) = fun i => if (fG (d :: cs) i).isSome = true then 1 else 0 := by
      funext i
      show (if (fG (c :: d :: cs) (i + 1)).isSome = true then 1 else 0) = _
      show (if (if cs[i]? = (d :: cs)[i]? then none else some (V.int (1 + ((i + 1 : Nat) : Int)))).isSome = true then 1 else 0) = (if (if cs[i]? = (d :: cs)[i]? then none else some (V.int (1 + (i : Int)))).isSome = true then 1 else 0)
      by_cases q : cs[i]? = (d :: cs)[i]?
      · rw [if_pos q, if_pos q]
      · rw [if_neg q, if_neg q]
        rfl
    rw [e, ih]
    show _ = (if d = c then 0 else 1) + chg d cs
    have z : (if (fG (c :: d :: cs) 0).isSome = true then 1 else 0) = (if d = c then 0 else 1) := by
      show (if (if some d = some c then none else some (V.int (1 + ((0 : Nat) : Int)))).isSome = true then 1 else 0) = _
      by_cases q : d = c
      · subst q
        simp
      · simp [q]
    rw [z]
theorem grp_len (c : Nat) (cs : List Nat) : ((List.range cs.length).filterMap (fG (c :: cs))).length = chg c cs := by rw [fm_len, grp]
def has10 : List Nat → Bool
  | [] => false
  | c :: cs => (c == 49 && cs.head? == some 48) || has10 cs
theorem has10_iff : ∀ cs : List Nat, has10 cs = true ↔ ∃ i, (cs.drop i).take 2 = [49, 48]
  | [] => by simp [has10]
  | c :: cs => by
    unfold has10
    rw [Bool.or_eq_true, has10_iff cs]
    constructor
    · rintro (h | ⟨i, h⟩)
      · refine ⟨0, ?_⟩
        rw [Bool.and_eq_true, beq_iff_eq, beq_iff_eq] at h
        obtain ⟨rfl, h⟩ := h
        cases cs with
        | nil => cases h
        | cons d cs =>
          cases h
          rfl
      · exact ⟨i + 1, h⟩
    · rintro ⟨i, h⟩
      cases i with
      | zero =>
        left
        cases cs with
        | nil => simp at h
        | cons d cs =>
          simp only [List.drop_zero, List.take_succ_cons, List.take_zero, List.cons.injEq, and_true] at h
          obtain ⟨rfl, rfl⟩ := h
          rfl
      | succ i => exact .inr ⟨i, h⟩
theorem has10_found (cs : List Nat) : (!(Builtin.Str.occurrences (tx cs) (tx [49, 48]) 0 (tx cs).length 1).isEmpty) = has10 cs := by
  have h1 := StrLaws.found_iff (tx cs) (tx [49, 48])
  have h2 := has10_iff cs
  have e : (∃ i, i + (tx [49, 48]).length ≤ (tx cs).length ∧ Builtin.Str.subAt (tx cs) (tx [49, 48]) i = true) ↔ ∃ i, (cs.drop i).take 2 = [49, 48] := by
    constructor
    · rintro ⟨i, _, h⟩
      refine ⟨i, ?_⟩
      rw [StrLaws.subAt_eq] at h
      exact beq_iff_eq.mp h
    · rintro ⟨i, h⟩
      have hl : i + 2 ≤ cs.length := by
        have := congrArg List.length h
        rw [List.length_take, List.length_drop] at this
        simp at this
        omega
      refine ⟨i, by rw [tx_len, tx_len]; exact hl, ?_⟩
      rw [StrLaws.subAt_eq]
      exact beq_iff_eq.mpr h
  rw [Bool.eq_iff_iff, h1, e, h2]
theorem ten49 : ∀ cs : List Nat, Bits cs → (has10 (49 :: cs) = false ↔ chg 49 cs = 0)
  | [], _ => by simp [has10, chg]
  | c :: cs, hb => by
    have hb' : Bits cs := fun x hx => hb x (List.mem_cons_of_mem _ hx)
    rcases hb c List.mem_cons_self with rfl | rfl
    · simp [has10, chg]
    · have ih := ten49 cs hb'
      have e : has10 (49 :: 49 :: cs) = has10 (49 :: cs) := by
        show ((49 == 49 && (some 49 == some 48)) || has10 (49 :: cs)) = _
        rfl
      rw [e, ih]
      simp [chg]
theorem ten48 : ∀ cs : List Nat, Bits cs → (has10 (48 :: cs) = false ↔ chg 48 cs ≤ 1)
  | [], _ => by simp [has10, chg]
  | c :: cs, hb => by
    have hb' : Bits cs := fun x hx => hb x (List.mem_cons_of_mem _ hx)
    have e : has10 (48 :: c :: cs) = has10 (c :: cs) := rfl
    rw [e]
    rcases hb c List.mem_cons_self with rfl | rfl
    · rw [ten48 cs hb']
      simp [chg]
    · rw [ten49 cs hb']
      simp only [chg]
      rw [if_neg (by decide)]
      omega
def goalB (c : Int) (ns : List Int) (x : V) : Bool := decide (ns.length < 2) || (decide (ns.length = 2) && (decide (x = .str "grouped") || decide (c = 0)))
theorem goal_grouped {cs : List Nat} : goalB (firstR cs) (runsR cs) (.str "grouped") = decide (((List.range (cs.length - 1)).filterMap (fG cs)).length < 2) := by
  cases cs with
  | nil => rfl
  | cons c cs =>
    have hr := (runs_inv c cs).1
    rw [List.length_cons, Nat.add_sub_cancel, grp_len]
    unfold goalB
    rw [hr, decide_eq_true (rfl : V.str "grouped" = .str "grouped"), Bool.true_or, Bool.and_true, Bool.eq_iff_iff]
    simp only [Bool.or_eq_true, decide_eq_true_eq]
    omega
theorem goal_sorted {cs : List Nat} (hb : Bits cs) : goalB (firstR cs) (runsR cs) (.str "sorted") = !has10 cs := by
  cases cs with
  | nil => rfl
  | cons c cs =>
    have hr := (runs_inv c cs).1
    have hb' : Bits cs := fun x hx => hb x (List.mem_cons_of_mem _ hx)
    unfold goalB
    rw [hr, decide_eq_false (by decide +kernel : ¬ V.str "sorted" = .str "grouped"), Bool.false_or, Bool.eq_iff_iff]
    simp only [Bool.or_eq_true, Bool.and_eq_true, decide_eq_true_eq, Bool.not_eq_true']
    rcases hb c List.mem_cons_self with rfl | rfl
    · rw [ten48 cs hb']
      show _ ∨ _ ∧ ((48 : Nat) : Int) - 48 = 0 ↔ _
      omega
    · rw [ten49 cs hb']
      show _ ∨ _ ∧ ((49 : Nat) : Int) - 48 = 0 ↔ _
      omega
end Vc

namespace Vc
/-! ### rows as lists of their items -/
def ex : Int → List Int → List Int
  | _, [] => []
  | c, n :: ns => List.replicate n.toNat c ++ ex (1 - c) ns
def alt (c : Int) (n : Nat) : Int := if n % 2 = 0 then c else 1 - c
theorem alt_0 (c : Int) : alt c 0 = c := rfl
theorem alt_succ (c : Int) (n : Nat) : alt (1 - c) n = alt c (n + 1) := by
  unfold alt
  rcases Nat.mod_two_eq_zero_or_one n with h | h
  · rw [if_pos h, if_neg (by omega)]
  · rw [if_neg (by omega), if_pos (by omega)]
    omega
theorem alt_one (c : Int) (n : Nat) : 1 - alt c n = alt c (n + 1) := by
  unfold alt
  rcases Nat.mod_two_eq_zero_or_one n with h | h
  · rw [if_pos h, if_neg (by omega)]
  · rw [if_neg (by omega), if_pos (by omega)]
    omega
theorem alt_alt (c : Int) (n : Nat) : alt (alt c n) n = c := by
  unfold alt
  rcases Nat.mod_two_eq_zero_or_one n with h | h
  · rw [if_pos h, if_pos h]
  · rw [if_neg (by omega), if_neg (by omega)]
    omega
theorem alt_mod {c : Int} (hc : c = 0 ∨ c = 1) (n : Nat) : alt c n = (c + n) % 2 := by
  unfold alt
  rcases hc with rfl | rfl <;> split <;> omega
theorem alt_bit {c : Int} (hc : c = 0 ∨ c = 1) (n : Nat) : alt c n = 0 ∨ alt c n = 1 := by
  unfold alt
  rcases hc with rfl | rfl <;> split <;> omega
theorem ex_app : ∀ (a : List Int) (c : Int) (b : List Int), ex c (a ++ b) = ex c a ++ ex (alt c a.length) b
  | [], c, b => rfl
  | n :: a, c, b => by
    show List.replicate n.toNat c ++ ex (1 - c) (a ++ b) = (List.replicate n.toNat c ++ ex (1 - c) a) ++ _
    rw [ex_app a, List.append_assoc, alt_succ]
    rfl
theorem ex_one (c n : Int) : ex c [n] = List.replicate n.toNat c := by
  show List.replicate n.toNat c ++ [] = _
  rw [List.append_nil]
theorem ex_len : ∀ (ns : List Int) (c : Int), (∀ n ∈ ns, 1 ≤ n) → ((ex c ns).length : Int) = ns.sum
  | [], _, _ => rfl
  | n :: ns, c, h => by
    show ((List.replicate n.toNat c ++ ex (1 - c) ns).length : Int) = _
    have h1 := ex_len ns (1 - c) fun m hm => h m (List.mem_cons_of_mem _ hm)
    have h2 := h n List.mem_cons_self
    rw [List.length_append, List.length_replicate, List.sum_cons]
    omega
/-- a row as it is kept -/
structure Nf (c : Int) (ns : List Int) : Prop where
  hc : c = 0 ∨ c = 1
  hp : ∀ n ∈ ns, 1 ≤ n
  he : ns = [] → c = 0
theorem rep_head {n : Int} (h : 1 ≤ n) (c : Int) (l : List Int) : (List.replicate n.toNat c ++ l).head? = some c := by
  obtain ⟨k, hk⟩ : ∃ k, n.toNat = k + 1 := ⟨n.toNat - 1, by omega⟩
  rw [hk]
  rfl
theorem rep_inj : ∀ {a b : Nat} {c d : Int} {l m : List Int}, c ≠ d → (l.head? = none ∨ l.head? = some d) → (m.head? = none ∨ m.head? = some d) → List.replicate a c ++ l = List.replicate b c ++ m → a = b ∧ l = m
  | 0, 0, c, d, l, m, _, _, _, h => ⟨rfl, h⟩
  | 0, b + 1, c, d, l, m, hn, hl, _, h => by
    have h' : l = c :: (List.replicate b c ++ m) := h
    rw [h'] at hl
    rcases hl with hl | hl
    · cases hl
    · exact absurd (Option.some.inj hl) hn
  | a + 1, 0, c, d, l, m, hn, _, hm, h => by
    have h' : c :: (List.replicate a c ++ l) = m := h
    rw [← h'] at hm
    rcases hm with hm | hm
    · cases hm
    · exact absurd (Option.some.inj hm) hn
  | a + 1, b + 1, c, d, l, m, hn, hl, hm, h => by
    have h' : c :: (List.replicate a c ++ l) = c :: (List.replicate b c ++ m) := h
    obtain ⟨e1, e2⟩ := rep_inj hn hl hm (List.cons.inj h').2
    exact ⟨by rw [e1], e2⟩
theorem ex_head {ns : List Int} (h : ∀ n ∈ ns, 1 ≤ n) (c : Int) : (ex c ns).head? = none ∨ (ex c ns).head? = some c := by
  cases ns with
  | nil => exact .inl rfl
  | cons n ns => exact .inr (rep_head (h n List.mem_cons_self) c _)
theorem ex_inj' : ∀ (a b : List Int) (c : Int), (∀ n ∈ a, 1 ≤ n) → (∀ n ∈ b, 1 ≤ n) → ex c a = ex c b → a = b
  | [], [], _, _, _, _ => rfl
  | [], n :: b, c, _, hb, h => by
    have := rep_head (hb n List.mem_cons_self) c (ex (1 - c) b)
    have h' : [] = List.replicate n.toNat c ++ ex (1 - c) b := h
    rw [← h'] at this
    cases this
  | n :: a, [], c, ha, _, h => by
    have := rep_head (ha n List.mem_cons_self) c (ex (1 - c) a)
    have h' : List.replicate n.toNat c ++ ex (1 - c) a = [] := h
    rw [h'] at this
    cases this
  | n :: a, m :: b, c, ha, hb, h => by
    have ha' : ∀ x ∈ a, 1 ≤ x := fun x hx => ha x (List.mem_cons_of_mem _ hx)
    have hb' : ∀ x ∈ b, 1 ≤ x := fun x hx => hb x (List.mem_cons_of_mem _ hx)
    obtain ⟨e1, e2⟩ := rep_inj (d := 1 - c) (by omega) (ex_head ha' _) (ex_head hb' _) h
    have h1 := ha n List.mem_cons_self
    have h2 := hb m List.mem_cons_self
    rw [ex_inj' a b (1 - c) ha' hb' e2, show n = m from by omega]
theorem ex_inj {c d : Int} {a b : List Int} (x : Nf c a) (y : Nf d b) (h : ex c a = ex d b) : c = d ∧ a = b := by
  have e : c = d := by
    cases a with
    | nil =>
      cases b with
      | nil => rw [x.he rfl, y.he rfl]
      | cons m b =>
        have := rep_head (y.hp m List.mem_cons_self) d (ex (1 - d) b)
        have h' : [] = List.replicate m.toNat d ++ ex (1 - d) b := h
        rw [← h'] at this
        cases this
    | cons n a =>
      have h1 := rep_head (x.hp n List.mem_cons_self) c (ex (1 - c) a)
      have h' : List.replicate n.toNat c ++ ex (1 - c) a = ex d b := h
      rw [h'] at h1
      rcases ex_head y.hp d with q | q
      · rw [q] at h1; cases h1
      · rw [q] at h1; exact (Option.some.inj h1).symm
  subst e
  exact ⟨rfl, ex_inj' a b c x.hp y.hp h⟩
/-! ### joined, turned -/
theorem ex_rev : ∀ (ns : List Int) (c : Int), ex (alt c (ns.length - 1)) ns.reverse = (ex c ns).reverse
  | [], _ => rfl
  | [n], c => by
    show ex c [n] = _
    rw [ex_one, List.reverse_replicate]
  | n :: m :: ns, c => by
    have ih := ex_rev (m :: ns) (1 - c)
    show _ = (List.replicate n.toNat c ++ ex (1 - c) (m :: ns)).reverse
    rw [List.reverse_append, ← ih, List.reverse_replicate, List.reverse_cons (a := n), ex_app, ex_one, alt_succ]
    have e1 : (m :: ns).length - 1 + 1 = (m :: ns).length := rfl
    have e2 : (n :: m :: ns).length - 1 = (m :: ns).length := rfl
    rw [e1, e2, List.length_reverse, alt_alt]
def joinR (c1 : Int) (a : List Int) (c2 : Int) (b : List Int) : Int × List Int :=
  if a = [] then (c2, b) else if b = [] then (c1, a) else if (c1 + a.length - 1) % 2 = c2 then (c1, a.dropLast ++ ([a.getLast?.getD 0 + b.head?.getD 0] ++ b.tail)) else (c1, a ++ b)
def invR (c : Int) (ns : List Int) : Int × List Int := if ns = [] then (0, []) else ((c + ns.length - 1) % 2, ns.reverse)
structure StP where
  l : List Int
  f : Int
  b : Int
  c : Int
def stP (s e : Int) (r : StP) (z : Int) : StP :=
  if 0 < (if r.b + z < e then r.b + z else e) - (if r.b > s then r.b else s) then ⟨r.l ++ [(if r.b + z < e then r.b + z else e) - (if r.b > s then r.b else s)], if r.l = [] then r.c else r.f, r.b + z, 1 - r.c⟩ else ⟨r.l, r.f, r.b + z, 1 - r.c⟩
def partG (c : Int) (ns : List Int) (s e : Int) : StP := ns.foldl (stP s e) ⟨[], 0, 0, c⟩
def partR (c : Int) (ns : List Int) (s e : Int) : Int × List Int := ((partG c ns s e).f, (partG c ns s e).l)
theorem evry_map {α β : Type} (f : α → β) : ∀ l : List α, evry (l.map f) = (evry l).map f
  | [] => rfl
  | [x] => rfl
  | x :: y :: r => by
    show f x :: evry (r.map f) = f x :: (evry r).map f
    rw [evry_map f r]
def cntR (c : Int) (ns : List Int) (k : Int) : Int := (evry (ns.drop ((k + c) % 2).toNat)).sum
def flipR (c : Int) (ns : List Int) (i j : Int) : Int × List Int :=
  joinR (joinR (partR c ns 0 i).1 (partR c ns 0 i).2 (invR (partR c ns i j).1 (partR c ns i j).2).1 (invR (partR c ns i j).1 (partR c ns i j).2).2).1
    (joinR (partR c ns 0 i).1 (partR c ns 0 i).2 (invR (partR c ns i j).1 (partR c ns i j).2).1 (invR (partR c ns i j).1 (partR c ns i j).2).2).2 (partR c ns j ns.sum).1 (partR c ns j ns.sum).2

theorem dropLast_snoc (a : List Int) (h : a ≠ []) : ∃ is x, a = is ++ [x] ∧ a.dropLast = is ∧ a.getLast?.getD 0 = x := by
  refine ⟨a.dropLast, a.getLast h, (List.dropLast_concat_getLast h).symm, rfl, ?_⟩
  rw [List.getLast?_eq_some_getLast h]
  rfl
theorem join_nf {c d : Int} {a b : List Int} (x : Nf c a) (y : Nf d b) : Nf (joinR c a d b).1 (joinR c a d b).2 ∧ ex (joinR c a d b).1 (joinR c a d b).2 = ex c a ++ ex d b := by
  unfold joinR
  by_cases ha : a = []
  · rw [if_pos ha, ha]
    exact ⟨y, rfl⟩
  rw [if_neg ha]
  by_cases hb : b = []
  · rw [if_pos hb, hb]
    exact ⟨x, (List.append_nil _).symm⟩
  rw [if_neg hb]
  obtain ⟨is, z, ea, ed, el⟩ := dropLast_snoc a ha
  have hl : a.length = is.length + 1 := by rw [ea, List.length_append]; rfl
  have hm : (c + a.length - 1) % 2 = alt c is.length := by
    rw [alt_mod x.hc, hl]
    congr 1
    omega
  rw [hm]
  by_cases hc : alt c is.length = d
  · rw [if_pos hc]
    obtain ⟨w, b', rfl⟩ : ∃ w b', b = w :: b' := by cases b <;> first | exact absurd rfl hb | exact ⟨_, _, rfl⟩
    rw [ed, el]
    have hz : 1 ≤ z := x.hp z (by rw [ea]; simp)
    have hw : 1 ≤ w := y.hp w List.mem_cons_self
    refine ⟨⟨x.hc, fun n hn => ?_, fun h => ?_⟩, ?_⟩
    · rcases List.mem_append.mp hn with h | h
      · exact x.hp n (by rw [ea]; exact List.mem_append_left _ h)
      · rcases List.mem_append.mp h with h | h
        · cases List.mem_singleton.mp h
          show 1 ≤ z + w
          omega
        · exact y.hp n (List.mem_cons_of_mem _ h)
    · simp at h
    · show ex c (is ++ ([z + w] ++ b')) = _
      rw [ea, ex_app, ex_app, ex_app, hc, ex_one, ex_one]
      show _ ++ (List.replicate (z + w).toNat d ++ ex (alt d 1) b') = _ ++ (List.replicate w.toNat d ++ ex (1 - d) b')
      rw [show (z + w).toNat = z.toNat + w.toNat from by omega, ← List.replicate_append_replicate]
      simp only [List.append_assoc]
      rfl
  · rw [if_neg hc]
    refine ⟨⟨x.hc, fun n hn => ?_, fun h => ?_⟩, ?_⟩
    · rcases List.mem_append.mp hn with h | h
      · exact x.hp n h
      · exact y.hp n h
    · exact absurd (List.append_eq_nil_iff.mp h).1 ha
    · show ex c (a ++ b) = _
      rw [ex_app, hl, ← alt_one]
      have h1 := alt_bit x.hc is.length
      have h2 := y.hc
      rw [show 1 - alt c is.length = d from by omega]
theorem inv_nf {c : Int} {ns : List Int} (x : Nf c ns) : Nf (invR c ns).1 (invR c ns).2 ∧ ex (invR c ns).1 (invR c ns).2 = (ex c ns).reverse := by
  unfold invR
  by_cases h : ns = []
  · rw [if_pos h, h]
    exact ⟨⟨.inl rfl, fun n hn => (nomatch hn), fun _ => rfl⟩, rfl⟩
  rw [if_neg h]
  have h0 : 0 < ns.length := by cases ns <;> first | exact absurd rfl h | exact Nat.succ_pos _
  have e : (c + ns.length - 1) % 2 = alt c (ns.length - 1) := by
    rw [alt_mod x.hc]
    congr 1
    omega
  rw [e]
  refine ⟨⟨alt_bit x.hc _, fun n hn => x.hp n (List.mem_reverse.mp hn), fun q => absurd (List.reverse_eq_nil_iff.mp q) h⟩, ex_rev ns c⟩
/-! ### parts -/
theorem take_drop_rep (P : List Int) (B Z E S : Nat) (x : Int) (h : P.length = B) : ((P ++ List.replicate Z x).take E).drop S = (P.take E).drop S ++ List.replicate (min E (B + Z) - max S B) x := by
  rw [List.take_append, List.drop_append, List.length_take, h, List.take_replicate, List.drop_replicate]
  congr 2
  omega
structure PInv (c s e : Int) (done : List Int) (r : StP) : Prop where
  ib : r.b = done.sum
  ic : r.c = alt c done.length
  ix : ex r.f r.l = ((ex c done).take e.toNat).drop s.toNat
  ip : ∀ n ∈ r.l, 1 ≤ n
  iF : r.f = 0 ∨ r.f = 1
  iz : r.l = [] → r.f = 0
  ia : r.l ≠ [] → r.b < e → alt r.f r.l.length = r.c
  ig : r.l ≠ [] → s < r.b
theorem sum_snoc (a : List Int) (z : Int) : (a ++ [z]).sum = a.sum + z := by
  rw [sum_app]
  simp
theorem pinv_step {c s e : Int} {done : List Int} {r : StP} {z : Int} (hc : c = 0 ∨ c = 1) (h0 : 0 ≤ s) (hd : ∀ n ∈ done, 1 ≤ n) (hz : 1 ≤ z) (I : PInv c s e done r) : PInv c s e (done ++ [z]) (stP s e r z) := by
  have hb := I.ib
  have hlen := ex_len done c hd
  have hsum := (le_sum hd).1
  have hB : (ex c done).length = r.b.toNat := by omega
  have hx := take_drop_rep (ex c done) r.b.toNat z.toNat e.toNat s.toNat (alt c done.length) hB
  have hcb : r.c = 0 ∨ r.c = 1 := by rw [I.ic]; exact alt_bit hc _
  have hex : ex c (done ++ [z]) = ex c done ++ List.replicate z.toNat (alt c done.length) := by rw [ex_app, ex_one]
  have hlc : 1 - r.c = alt c (done ++ [z]).length := by
    rw [I.ic, alt_one, List.length_append]
    rfl
  unfold stP
  by_cases hp : 0 < (if r.b + z < e then r.b + z else e) - (if r.b > s then r.b else s)
  · rw [if_pos hp]
    generalize hk : (if r.b + z < e then r.b + z else e) - (if r.b > s then r.b else s) = k at hp
    have hk' : k.toNat = min e.toNat (r.b.toNat + z.toNat) - max s.toNat r.b.toNat := by
      revert hk
      split <;> split <;> omega
    have hbe : r.b < e ∧ s < r.b + z := by
      revert hk
      split <;> split <;> omega
    rw [← hex, ← hk', ← I.ic, ← I.ix] at hx
    have fx : ex (if r.l = [] then r.c else r.f) (r.l ++ [k]) = ex r.f r.l ++ List.replicate k.toNat r.c := by
      by_cases hl : r.l = []
      · rw [if_pos hl, hl]
        exact ex_one _ _
      · rw [if_neg hl, ex_app, ex_one, I.ia hl hbe.1]
    refine ⟨?_, hlc, ?_, fun n hn => ?_, ?_, fun q => ?_, fun _ _ => ?_, fun _ => hbe.2⟩
    · rw [sum_snoc, ← hb]
    · rw [hx]
      exact fx
    · rcases List.mem_append.mp hn with h | h
      · exact I.ip n h
      · cases List.mem_singleton.mp h
        exact hp
    · show (if r.l = [] then r.c else r.f) = 0 ∨ (if r.l = [] then r.c else r.f) = 1
      split
      · exact hcb
      · exact I.iF
    · exact absurd (show r.l ++ [k] = [] from q) (by simp)
    · show alt (if r.l = [] then r.c else r.f) (r.l ++ [k]).length = 1 - r.c
      rw [List.length_append]
      show alt _ (r.l.length + 1) = _
      rw [← alt_one]
      by_cases hl : r.l = []
      · rw [if_pos hl, hl]
        rfl
      · rw [if_neg hl, I.ia hl hbe.1]
  · rw [if_neg hp]
    have hk' : min e.toNat (r.b.toNat + z.toNat) - max s.toNat r.b.toNat = 0 := by
      revert hp
      split <;> split <;> omega
    rw [← hex, hk', ← I.ix] at hx
    refine ⟨?_, hlc, ?_, I.ip, I.iF, I.iz, fun hl hb' => ?_, fun hl => ?_⟩
    · rw [sum_snoc, ← hb]
    · rw [hx]
      exact (List.append_nil _).symm
    · exfalso
      have h1 := I.ig hl
      have h2 : r.b + z < e := hb'
      rw [if_pos h2] at hp
      revert hp
      split <;> omega
    · have h1 := I.ig hl
      show s < r.b + z
      omega
theorem pinv_all {c s e : Int} (hc : c = 0 ∨ c = 1) (h0 : 0 ≤ s) : ∀ (ns done : List Int) (r : StP), (∀ n ∈ done, 1 ≤ n) → (∀ n ∈ ns, 1 ≤ n) → PInv c s e done r → PInv c s e (done ++ ns) (ns.foldl (stP s e) r)
  | [], done, r, _, _, I => by rw [List.append_nil]; exact I
  | z :: ns, done, r, hd, hn, I => by
    have hz := hn z List.mem_cons_self
    have h := pinv_all hc h0 ns (done ++ [z]) (stP s e r z) (fun n q => by
      rcases List.mem_append.mp q with q | q
      · exact hd n q
      · cases List.mem_singleton.mp q
        exact hz) (fun n q => hn n (List.mem_cons_of_mem _ q)) (pinv_step hc h0 hd hz I)
    rw [List.append_assoc] at h
    exact h
theorem part_nf {c : Int} {ns : List Int} (x : Nf c ns) {s e : Int} (h0 : 0 ≤ s) : Nf (partR c ns s e).1 (partR c ns s e).2 ∧ ex (partR c ns s e).1 (partR c ns s e).2 = ((ex c ns).take e.toNat).drop s.toNat := by
  have I := pinv_all (c := c) (s := s) (e := e) x.hc h0 ns [] ⟨[], 0, 0, c⟩ (fun n h => (nomatch h)) x.hp
    ⟨rfl, rfl, by show [] = _; simp [ex], fun n h => (nomatch h), .inl rfl, fun _ => rfl, fun h => absurd rfl h, fun h => absurd rfl h⟩
  rw [List.nil_append] at I
  exact ⟨⟨I.iF, I.ip, I.iz⟩, I.ix⟩
theorem partG_len (s e : Int) : ∀ (ns : List Int) (r : StP), (ns.foldl (stP s e) r).l.length ≤ r.l.length + ns.length
  | [], r => Nat.le_refl _
  | z :: ns, r => by
    rw [List.foldl_cons]
    have h := partG_len s e ns (stP s e r z)
    have h2 : (stP s e r z).l.length ≤ r.l.length + 1 := by
      unfold stP
      by_cases h : 0 < (if r.b + z < e then r.b + z else e) - (if r.b > s then r.b else s)
      · rw [if_pos h]
        show (r.l ++ [_]).length ≤ _
        rw [List.length_append]
        exact Nat.le_refl _
      · rw [if_neg h]
        exact Nat.le_succ _
    rw [List.length_cons]
    omega
end Vc

namespace Vc
/-! ### changes within a list -/
def cf : Int → List Int → Nat
  | _, [] => 0
  | p, x :: l => (if x = p then 0 else 1) + cf x l
def la : Int → List Int → Int
  | p, [] => p
  | _, x :: l => la x l
theorem cf_app : ∀ (a : List Int) (p : Int) (b : List Int), cf p (a ++ b) = cf p a + cf (la p a) b
  | [], p, b => by show cf p b = 0 + cf p b; omega
  | x :: a, p, b => by
    show (if x = p then 0 else 1) + cf x (a ++ b) = (if x = p then 0 else 1) + cf x a + cf (la x a) b
    rw [cf_app a]
    omega
theorem la_app : ∀ (a : List Int) (p : Int) (b : List Int), la p (a ++ b) = la (la p a) b
  | [], p, b => rfl
  | x :: a, p, b => la_app a x b
theorem rev_cf : ∀ (r : List Int) (x : Int), ∃ r', (x :: r).reverse = la x r :: r' ∧ cf (la x r) r' = cf x r ∧ la (la x r) r' = x
  | [], x => ⟨[], rfl, rfl, rfl⟩
  | z :: t, x => by
    obtain ⟨t', e1, e2, e3⟩ := rev_cf t z
    refine ⟨t' ++ [x], ?_, ?_, ?_⟩
    · rw [List.reverse_cons, e1]
      rfl
    · show cf (la z t) (t' ++ [x]) = (if z = x then 0 else 1) + cf z t
      rw [cf_app, e2, e3]
      show cf z t + ((if x = z then 0 else 1) + 0) = _
      by_cases h : x = z
      · rw [if_pos h, if_pos h.symm]
        omega
      · rw [if_neg h, if_neg (fun q => h q.symm)]
        omega
    · show la (la z t) (t' ++ [x]) = x
      rw [la_app]
      rfl
theorem cf_rep : ∀ (k : Nat) (c : Int) (L : List Int), cf c (List.replicate k c ++ L) = cf c L
  | 0, _, _ => rfl
  | k + 1, c, L => by
    show (if c = c then 0 else 1) + cf c (List.replicate k c ++ L) = _
    rw [if_pos rfl, cf_rep k c L]
    omega
theorem la_rep : ∀ (k : Nat) (c : Int) (L : List Int), la c (List.replicate k c ++ L) = la c L
  | 0, _, _ => rfl
  | k + 1, c, L => la_rep k c L
/-- a row's first item, its number of runs, its last item -/
theorem ex_cf : ∀ (ns : List Int) (c : Int), (∀ n ∈ ns, 1 ≤ n) → ns ≠ [] → ∃ R, ex c ns = c :: R ∧ ns.length = 1 + cf c R ∧ la c R = alt c (ns.length - 1)
  | [], _, _, h => absurd rfl h
  | [n], c, hp, _ => by
    have h1 := hp n List.mem_cons_self
    refine ⟨List.replicate (n.toNat - 1) c ++ [], ?_, ?_, ?_⟩
    · show List.replicate n.toNat c ++ [] = _
      obtain ⟨k, hk⟩ : ∃ k, n.toNat = k + 1 := ⟨n.toNat - 1, by omega⟩
      rw [hk]
      rfl
    · rw [cf_rep]
      rfl
    · rw [la_rep]
      rfl
  | n :: m :: t, c, hp, _ => by
    have h1 := hp n List.mem_cons_self
    obtain ⟨R, e1, e2, e3⟩ := ex_cf (m :: t) (1 - c) (fun x hx => hp x (List.mem_cons_of_mem _ hx)) (by simp)
    refine ⟨List.replicate (n.toNat - 1) c ++ ((1 - c) :: R), ?_, ?_, ?_⟩
    · show List.replicate n.toNat c ++ ex (1 - c) (m :: t) = _
      rw [e1]
      obtain ⟨k, hk⟩ : ∃ k, n.toNat = k + 1 := ⟨n.toNat - 1, by omega⟩
      rw [hk]
      rfl
    · rw [cf_rep]
      show _ = 1 + ((if 1 - c = c then 0 else 1) + cf (1 - c) R)
      rw [if_neg (by omega), List.length_cons, e2]
      omega
    · rw [la_rep]
      show la (1 - c) R = _
      rw [e3, alt_succ]
      rfl
theorem ex_bits : ∀ (ns : List Int) (c : Int), (c = 0 ∨ c = 1) → ∀ x ∈ ex c ns, x = 0 ∨ x = 1
  | [], _, _, x, h => nomatch h
  | n :: ns, c, hc, x, h => by
    rcases List.mem_append.mp h with h | h
    · rw [List.eq_of_mem_replicate h]
      exact hc
    · exact ex_bits ns (1 - c) (by omega) x h
theorem la_mem : ∀ (r : List Int) (x : Int), la x r ∈ x :: r
  | [], x => List.mem_cons_self
  | y :: r, x => List.mem_cons_of_mem _ (la_mem r y)
/-- what a part turned does to the first item, the changes, the last item -/
theorem turn_facts {A M Z : List Int} (hM : M ≠ []) (hb : ∀ x ∈ A ++ (M ++ Z), x = 0 ∨ x = 1) {x y : Int} {R S : List Int} (h1 : A ++ (M ++ Z) = x :: R) (h2 : A ++ (M.reverse ++ Z) = y :: S) :
    (A = [] → Z = [] → cf y S = cf x R ∧ y = la x R ∧ la y S = x) ∧
    (A ≠ [] → Z ≠ [] → (cf y S = cf x R ∨ cf y S = cf x R + 2 ∨ cf y S + 2 = cf x R) ∧ y = x ∧ la y S = la x R) ∧
    (A = [] → Z ≠ [] → (cf y S = cf x R ∨ cf y S = cf x R + 1 ∨ cf y S + 1 = cf x R) ∧ (y = x ↔ cf y S = cf x R) ∧ la y S = la x R) ∧
    (A ≠ [] → Z = [] → (cf y S = cf x R ∨ cf y S = cf x R + 1 ∨ cf y S + 1 = cf x R) ∧ y = x ∧ (la y S = la x R ↔ cf y S = cf x R)) := by
  obtain ⟨m1, r, rfl⟩ : ∃ m1 r, M = m1 :: r := by cases M <;> first | exact absurd rfl hM | exact ⟨_, _, rfl⟩
  obtain ⟨r', e1, e2, e3⟩ := rev_cf r m1
  rw [e1] at h2
  have b1 : m1 = 0 ∨ m1 = 1 := hb m1 (List.mem_append_right _ (List.mem_append_left _ List.mem_cons_self))
  have b2 : la m1 r = 0 ∨ la m1 r = 1 := hb _ (List.mem_append_right _ (List.mem_append_left _ (la_mem r m1)))
  have q1 : cf m1 (r ++ Z) = cf m1 r + cf (la m1 r) Z := cf_app _ _ _
  have q2 : la m1 (r ++ Z) = la (la m1 r) Z := la_app _ _ _
  have q3 : cf (la m1 r) (r' ++ Z) = cf m1 r + cf m1 Z := by rw [cf_app, e2, e3]
  have q4 : la (la m1 r) (r' ++ Z) = la m1 Z := by rw [la_app, e3]
  have bZ : ∀ z q, Z = z :: q → z = 0 ∨ z = 1 := fun z q e => hb z (List.mem_append_right _ (List.mem_append_right _ (by rw [e]; exact List.mem_cons_self)))
  generalize la m1 r = m2 at *
  cases A with
  | nil =>
    have h1' : m1 :: (r ++ Z) = x :: R := h1
    have h2' : m2 :: (r' ++ Z) = y :: S := h2
    obtain ⟨rfl, rfl⟩ := List.cons.inj h1'
    obtain ⟨rfl, rfl⟩ := List.cons.inj h2'
    rw [q1, q2, q3, q4]
    refine ⟨fun _ hz => ?_, fun h => absurd rfl h, fun _ hz => ?_, fun h => absurd rfl h⟩
    · subst hz
      exact ⟨rfl, rfl, rfl⟩
    · obtain ⟨z, q, rfl⟩ : ∃ z q, Z = z :: q := by cases Z <;> first | exact absurd rfl hz | exact ⟨_, _, rfl⟩
      have bz := bZ z q rfl
      show (_ + ((if z = m1 then 0 else 1) + cf z q) = _ + ((if z = m2 then 0 else 1) + cf z q) ∨ _ + ((if z = m1 then 0 else 1) + cf z q) = _ + ((if z = m2 then 0 else 1) + cf z q) + 1 ∨ _ + ((if z = m1 then 0 else 1) + cf z q) + 1 = _ + ((if z = m2 then 0 else 1) + cf z q)) ∧ (m2 = m1 ↔ _ + ((if z = m1 then 0 else 1) + cf z q) = _ + ((if z = m2 then 0 else 1) + cf z q)) ∧ la z q = la z q
      refine ⟨?_, ?_, rfl⟩
      · split <;> split <;> omega
      · constructor
        · intro e
          rw [e]
        · intro e
          revert e
          split <;> split <;> omega
  | cons a s =>
    have h1' : a :: (s ++ (m1 :: (r ++ Z))) = x :: R := h1
    have h2' : a :: (s ++ (m2 :: (r' ++ Z))) = y :: S := h2
    have ba : la a s = 0 ∨ la a s = 1 := hb _ (List.mem_append_left _ (la_mem s a))
    obtain ⟨rfl, rfl⟩ := List.cons.inj h1'
    obtain ⟨rfl, rfl⟩ := List.cons.inj h2'
    have c1 : cf a (s ++ (m1 :: (r ++ Z))) = cf a s + ((if m1 = la a s then 0 else 1) + cf m1 (r ++ Z)) := cf_app _ _ _
    have c2 : cf a (s ++ (m2 :: (r' ++ Z))) = cf a s + ((if m2 = la a s then 0 else 1) + cf m2 (r' ++ Z)) := cf_app _ _ _
    have l1 : la a (s ++ (m1 :: (r ++ Z))) = la m1 (r ++ Z) := la_app _ _ _
    have l2 : la a (s ++ (m2 :: (r' ++ Z))) = la m2 (r' ++ Z) := la_app _ _ _
    rw [c1, c2, l1, l2, q1, q2, q3, q4]
    generalize la a s = a2 at *
    refine ⟨fun h => absurd h (by simp), fun _ hz => ?_, fun h => absurd h (by simp), fun _ hz => ?_⟩
    · obtain ⟨z, q, rfl⟩ : ∃ z q, Z = z :: q := by cases Z <;> first | exact absurd rfl hz | exact ⟨_, _, rfl⟩
      have bz := bZ z q rfl
      have d1 : cf m1 (z :: q) = (if z = m1 then 0 else 1) + cf z q := rfl
      have d2 : cf m2 (z :: q) = (if z = m2 then 0 else 1) + cf z q := rfl
      rw [d1, d2]
      refine ⟨?_, rfl, rfl⟩
      rcases b1 with rfl | rfl <;> rcases b2 with rfl | rfl <;> rcases ba with rfl | rfl <;> rcases bz with rfl | rfl <;> simp <;> omega
    · subst hz
      show (_ + (_ + (_ + 0)) = _ + (_ + (_ + 0)) ∨ _ + (_ + (_ + 0)) = _ + (_ + (_ + 0)) + 1 ∨ _ + (_ + (_ + 0)) + 1 = _ + (_ + (_ + 0))) ∧ _ = _ ∧ (m1 = m2 ↔ _ + (_ + (_ + 0)) = _ + (_ + (_ + 0)))
      refine ⟨?_, rfl, ?_⟩
      · rcases b1 with rfl | rfl <;> rcases b2 with rfl | rfl <;> rcases ba with rfl | rfl <;> simp <;> omega
      · rcases b1 with rfl | rfl <;> rcases b2 with rfl | rfl <;> rcases ba with rfl | rfl <;> simp
/-! ### flips -/
theorem len_nat {c : Int} {ns : List Int} (x : Nf c ns) : (ex c ns).length = ns.sum.toNat := by
  have := ex_len ns c x.hp
  omega
theorem flip_ex {c i j : Int} {ns : List Int} (x : Nf c ns) (h0 : 0 ≤ i) (h1 : i ≤ j) (h2 : j ≤ ns.sum) :
    Nf (flipR c ns i j).1 (flipR c ns i j).2 ∧ ex (flipR c ns i j).1 (flipR c ns i j).2 = (ex c ns).take i.toNat ++ ((((ex c ns).take j.toNat).drop i.toNat).reverse ++ (ex c ns).drop j.toNat) ∧
    ex c ns = (ex c ns).take i.toNat ++ (((ex c ns).take j.toNat).drop i.toNat ++ (ex c ns).drop j.toNat) := by
  obtain ⟨na, ea⟩ := part_nf (s := 0) (e := i) x (by omega)
  obtain ⟨nm, em⟩ := part_nf (s := i) (e := j) x h0
  obtain ⟨nz, ez⟩ := part_nf (s := j) (e := ns.sum) x (by omega)
  obtain ⟨nt, et⟩ := inv_nf nm
  obtain ⟨nd, ed⟩ := join_nf na nt
  obtain ⟨nr, er⟩ := join_nf nd nz
  have hl := len_nat x
  refine ⟨nr, ?_, ?_⟩
  · show ex (joinR _ _ _ _).1 (joinR _ _ _ _).2 = _
    rw [er, ed, et, em, ea, ez, ← hl, List.take_length, List.append_assoc]
    rfl
  · have e1 : (ex c ns).take j.toNat = (ex c ns).take i.toNat ++ ((ex c ns).take j.toNat).drop i.toNat := by
      have := List.take_append_drop i.toNat ((ex c ns).take j.toNat)
      rw [List.take_take, show min i.toNat j.toNat = i.toNat from by omega] at this
      exact this.symm
    rw [← List.append_assoc, ← e1, List.take_append_drop]
/-- the lengths on the way -/
theorem join_len (c : Int) (a : List Int) (d : Int) (b : List Int) : (joinR c a d b).2.length ≤ a.length + b.length := by
  unfold joinR
  by_cases ha : a = []
  · rw [if_pos ha]
    exact Nat.le_add_left _ _
  rw [if_neg ha]
  by_cases hb : b = []
  · rw [if_pos hb]
    exact Nat.le_add_right _ _
  rw [if_neg hb]
  split
  · show (a.dropLast ++ ([_] ++ b.tail)).length ≤ _
    rw [List.length_append, List.length_append, List.length_dropLast, List.length_tail]
    have : 0 < a.length := by cases a <;> first | exact absurd rfl ha | exact Nat.succ_pos _
    have : 0 < b.length := by cases b <;> first | exact absurd rfl hb | exact Nat.succ_pos _
    show a.length - 1 + (1 + (b.length - 1)) ≤ _
    omega
  · show (a ++ b).length ≤ _
    rw [List.length_append]
    exact Nat.le_refl _
theorem inv_len (c : Int) (ns : List Int) : (invR c ns).2.length ≤ ns.length := by
  unfold invR
  split
  · exact Nat.zero_le _
  · show ns.reverse.length ≤ _
    rw [List.length_reverse]
    exact Nat.le_refl _
theorem part_len (c : Int) (ns : List Int) (s e : Int) : (partR c ns s e).2.length ≤ ns.length := by
  have := partG_len s e ns ⟨[], 0, 0, c⟩
  show (partG c ns s e).l.length ≤ _
  unfold partG
  simpa using this
/-! ### counts -/
theorem cnt_same : ∀ (ns : List Int) (c : Int), (∀ n ∈ ns, 1 ≤ n) → (((ex c ns).count c : Nat) : Int) = (evry ns).sum
  | [], _, _ => rfl
  | [n], c, h => by
    have := h n List.mem_cons_self
    rw [ex_one, List.count_replicate_self]
    show (n.toNat : Int) = [n].sum
    simp
    omega
  | n :: m :: r, c, h => by
    have h1 := h n List.mem_cons_self
    have ih := cnt_same r c fun x hx => h x (List.mem_cons_of_mem _ (List.mem_cons_of_mem _ hx))
    show (((List.replicate n.toNat c ++ (List.replicate m.toNat (1 - c) ++ ex (1 - (1 - c)) r)).count c : Nat) : Int) = (n :: evry r).sum
    rw [show 1 - (1 - c) = c from by omega, List.count_append, List.count_append, List.count_replicate_self, List.count_replicate, if_neg (by simp; omega), List.sum_cons, ← ih]
    omega
theorem cnt_ex {c : Int} {ns : List Int} (x : Nf c ns) {k : Int} (hk : k = 0 ∨ k = 1) : cntR c ns k = (((ex c ns).count k : Nat) : Int) := by
  unfold cntR
  by_cases e : k = c
  · subst e
    rw [show ((k + k) % 2).toNat = 0 from by omega, List.drop_zero, cnt_same ns k x.hp]
  · have hc := x.hc
    rw [show ((k + c) % 2).toNat = 1 from by omega]
    cases ns with
    | nil => rfl
    | cons n t =>
      have hk' : k = 1 - c := by omega
      subst hk'
      show (evry t).sum = _
      rw [← cnt_same t (1 - c) fun m hm => x.hp m (List.mem_cons_of_mem _ hm)]
      show _ = (((List.replicate n.toNat c ++ ex (1 - c) t).count (1 - c) : Nat) : Int)
      rw [List.count_append, List.count_replicate, if_neg (by simp; omega)]
      omega
theorem flip_cnt {c i j : Int} {ns : List Int} (x : Nf c ns) (h0 : 0 ≤ i) (h1 : i ≤ j) (h2 : j ≤ ns.sum) {k : Int} (hk : k = 0 ∨ k = 1) : cntR (flipR c ns i j).1 (flipR c ns i j).2 k = cntR c ns k := by
  obtain ⟨nf, e1, e2⟩ := flip_ex x h0 h1 h2
  rw [cnt_ex nf hk, cnt_ex x hk, e1]
  rw [e2]
  simp only [List.count_append, List.count_reverse]
  rw [← e2]
theorem flip_sum {c i j : Int} {ns : List Int} (x : Nf c ns) (h0 : 0 ≤ i) (h1 : i ≤ j) (h2 : j ≤ ns.sum) : (flipR c ns i j).2.sum = ns.sum := by
  obtain ⟨nf, e1, e2⟩ := flip_ex x h0 h1 h2
  have a := ex_len _ (flipR c ns i j).1 nf.hp
  have b := ex_len ns c x.hp
  rw [← a, ← b, e1]
  have := congrArg List.length e2
  simp only [List.length_append, List.length_reverse] at this ⊢
  omega
theorem flip_two {c i j : Int} {ns : List Int} (x : Nf c ns) (h0 : 0 ≤ i) (h1 : i ≤ j) (h2 : j ≤ ns.sum) : flipR (flipR c ns i j).1 (flipR c ns i j).2 i j = (c, ns) := by
  obtain ⟨nf, e1, e2⟩ := flip_ex x h0 h1 h2
  obtain ⟨nf2, e3, _⟩ := flip_ex nf h0 h1 (by rw [flip_sum x h0 h1 h2]; exact h2)
  have hl := len_nat x
  have la : ((ex c ns).take i.toNat).length = i.toNat := by rw [List.length_take]; omega
  have lm : ((((ex c ns).take j.toNat).drop i.toNat).reverse).length = j.toNat - i.toNat := by rw [List.length_reverse, List.length_drop, List.length_take]; omega
  rw [e1] at e3
  generalize hA : (ex c ns).take i.toNat = A at *
  generalize hM : ((ex c ns).take j.toNat).drop i.toNat = M at *
  generalize hZ : (ex c ns).drop j.toNat = Z at *
  have t1 : (A ++ (M.reverse ++ Z)).take i.toNat = A := by rw [← la, List.take_left]
  have t2 : (A ++ (M.reverse ++ Z)).take j.toNat = A ++ M.reverse := by
    rw [← List.append_assoc]
    have : j.toNat = (A ++ M.reverse).length := by rw [List.length_append, la, lm]; omega
    rw [this, List.take_left]
  have t3 : (A ++ (M.reverse ++ Z)).drop j.toNat = Z := by
    rw [← List.append_assoc]
    have : j.toNat = (A ++ M.reverse).length := by rw [List.length_append, la, lm]; omega
    rw [this, List.drop_left]
  have t4 : (A ++ M.reverse).drop i.toNat = M.reverse := by rw [← la, List.drop_left]
  rw [t1, t2, t3, t4, List.reverse_reverse, ← e2] at e3
  obtain ⟨a, b⟩ := ex_inj nf2 x e3
  exact Prod.ext a b
/-- the last item's colour -/
def lastI (c : Int) (ns : List Int) : Int := alt c (ns.length - 1)
theorem turn_row {c i j : Int} {ns : List Int} (x : Nf c ns) (h0 : 0 ≤ i) (h1 : i < j) (h2 : j ≤ ns.sum) :
    ns ≠ [] ∧ (flipR c ns i j).2 ≠ [] ∧
    (i = 0 → j = ns.sum → (flipR c ns i j).2.length = ns.length ∧ (flipR c ns i j).1 = lastI c ns ∧ lastI (flipR c ns i j).1 (flipR c ns i j).2 = c) ∧
    (0 < i → j < ns.sum → ((flipR c ns i j).2.length = ns.length ∨ (flipR c ns i j).2.length = ns.length + 2 ∨ (flipR c ns i j).2.length + 2 = ns.length) ∧ (flipR c ns i j).1 = c ∧ lastI (flipR c ns i j).1 (flipR c ns i j).2 = lastI c ns) ∧
    (i = 0 → j < ns.sum → ((flipR c ns i j).2.length = ns.length ∨ (flipR c ns i j).2.length = ns.length + 1 ∨ (flipR c ns i j).2.length + 1 = ns.length) ∧ ((flipR c ns i j).1 = c ↔ (flipR c ns i j).2.length = ns.length) ∧ lastI (flipR c ns i j).1 (flipR c ns i j).2 = lastI c ns) ∧
    (0 < i → j = ns.sum → ((flipR c ns i j).2.length = ns.length ∨ (flipR c ns i j).2.length = ns.length + 1 ∨ (flipR c ns i j).2.length + 1 = ns.length) ∧ (flipR c ns i j).1 = c ∧ (lastI (flipR c ns i j).1 (flipR c ns i j).2 = lastI c ns ↔ (flipR c ns i j).2.length = ns.length)) := by
  obtain ⟨nf, e1, e2⟩ := flip_ex x h0 (Int.le_of_lt h1) h2
  have hs := flip_sum x h0 (Int.le_of_lt h1) h2
  have hl := len_nat x
  have n1 : ns ≠ [] := fun e => by
    rw [e] at h2
    have : ([] : List Int).sum = 0 := rfl
    omega
  have n2 : (flipR c ns i j).2 ≠ [] := fun e => by
    rw [e] at hs
    have : ([] : List Int).sum = 0 := rfl
    omega
  obtain ⟨R, r1, r2, r3⟩ := ex_cf ns c x.hp n1
  obtain ⟨S, s1, s2, s3⟩ := ex_cf _ (flipR c ns i j).1 nf.hp n2
  have hM : ((ex c ns).take j.toNat).drop i.toNat ≠ [] := fun e => by
    have h := congrArg List.length e
    rw [List.length_drop, List.length_take, hl] at h
    have h' : min j.toNat ns.sum.toNat - i.toNat = 0 := h
    omega
  have hA : (ex c ns).take i.toNat = [] ↔ i = 0 := by
    constructor
    · intro e
      have h := congrArg List.length e
      rw [List.length_take, hl] at h
      have h' : min i.toNat ns.sum.toNat = 0 := h
      omega
    · intro e
      rw [e]
      rfl
  have hZ : (ex c ns).drop j.toNat = [] ↔ j = ns.sum := by
    rw [List.drop_eq_nil_iff, hl]
    omega
  have F := turn_facts hM (by rw [← e2]; exact ex_bits ns c x.hc) (e2.symm.trans r1) (e1.symm.trans s1)
  obtain ⟨f1, f2, f3, f4⟩ := F
  unfold lastI
  rw [← r3, ← s3, r2, s2]
  refine ⟨n1, n2, fun a b => ?_, fun a b => ?_, fun a b => ?_, fun a b => ?_⟩
  · obtain ⟨g1, g2, g3⟩ := f1 (hA.mpr a) (hZ.mpr b)
    exact ⟨by omega, g2, g3⟩
  · obtain ⟨g1, g2, g3⟩ := f2 (fun e => by have := hA.mp e; omega) (fun e => by have := hZ.mp e; omega)
    exact ⟨by omega, g2, g3⟩
  · obtain ⟨g1, g2, g3⟩ := f3 (hA.mpr a) (fun e => by have := hZ.mp e; omega)
    exact ⟨by omega, g2.trans (by omega), g3⟩
  · obtain ⟨g1, g2, g3⟩ := f4 (fun e => by have := hA.mp e; omega) (hZ.mpr b)
    exact ⟨by omega, g2, g3.trans (by omega)⟩
end Vc

namespace Vc
open PySem PySem.Spec PyProof.Rows L2

/-! ### own exceptions whose __init__ hands a text on and keeps one value -/
/-- what is asked of the program: its file's name, and no name super of its own -/
class PF (P : Program) : Prop where
  file : ((P.main.file : Str) == ("/claim/cut.py" : Str)) = true
  sup : (P.main.scope.names.lookup ("super" : Str)).isSome = false
def exiBody (f arg : Str) : FuncBody → Bool
  | .stmts [.Expr (.Call (.Attribute (.Call (.Name sn _) [] [] _) im ap) [.Constant (.str _) _ _] [] cp) _, .Assign [.Attribute (.Name se _) fl _] (.Name ar _) _] =>
    sn == ("super" : Str) && (im == ("__init__" : Str) && (se == ("self" : Str) && (fl == f && (ar == arg && ap.endLine == cp.line))))
  | _ => false
def exiScope (arg : Str) (sc : Scope) : Bool :=
  decide (sc.kind = .function) && (!sc.isCoroutine && (!sc.isGenerator && (decide (sc.names.lookup ("super" : Str) = some .globalImplicit) && (decide (sc.names.lookup ("__class__" : Str) = some .free) &&
    (decide (sc.names.lookup ("self" : Str) = some .local) && (decide (sc.names.lookup arg = some .local) && sc.names.all fun x => !decide (x.2 = .cell)))))))
def exiPar (arg : Str) : Arguments → Bool
  | ⟨[], [⟨a, _, _⟩, ⟨b, _, _⟩], none, [], [], none, []⟩ => a == ("self" : Str) && b == arg
  | _ => false
def exiClo (K : PySem.W.Frag) (C : Addr) : List (Str × Addr) → Bool
  | [(cn, cc)] => cn == ("__class__" : Str) && (match K.lookup cc with
    | some ⟨_, _, .cell (some (.ref D)), _⟩ => decide (D = C)
    | _ => false)
  | _ => false
def exiFile : Option Value → Bool
  | some (.str z _) => z == ("/claim/cut.py" : Str)
  | _ => false
def exiCode (K : PySem.W.Frag) : Value → Bool
  | .ref c => (match K.lookup c with
    | some ⟨_, _, .fields vs, _⟩ => exiFile vs[2]?
    | _ => false)
  | _ => false
def exiFn (K : PySem.W.Frag) (C : Addr) (arg f : Str) (fd : FuncData) : Bool :=
  exiBody f arg fd.body && (exiScope arg fd.scope && (exiPar arg fd.params && (decide (fd.globals = mainGlobals) && (decide (fd.builtins = builtinsNs) && (decide (fd.defaults = .none) && (exiClo K C fd.closure && (PySem.W.codeIn K fd.code fd.qualname && exiCode K fd.code)))))))
structure ExiF (K : PySem.W.Frag) (C : Addr) (bm : List Value) (B newId initId : String) (arg f : Str) : Prop where
  i : PySem.W.excInitIn K C bm newId = true
  o : PySem.W.excOver K C bm = true
  s : PySem.W.subIn K (.ref C) (.type "BaseException") = some true
  t : PySem.W.typeIn K (.ref C) = some (.type "type")
  k : PySem.W.keepIn K (.ref C) = true
  sa : PySem.W.findIn K (.ref C) "__setattr__" = some (some (.builtin "object.__setattr__"))
  nf : PySem.W.findIn K (.ref C) f = some none
  hd : PySem.W.hasDictIn K C = true
  op : PySem.W.nsIn K cStatics "thirdparty.any" = some none
  su : PySem.W.ks_superIn K C C "__init__" = some (some (.builtin initId))
  sB : PySem.W.subIn K (.ref C) (.type B) = some true
  mr : PySem.W.mroIn K C (.ref C) = some true
  ns : PySem.W.nsIn K mainGlobals "super" = some none
  fn : ∃ (fI : Addr) (oc : Value) (od : Option Addr) (fd : FuncData) (osl : Array (Option Value)), PySem.W.findIn K (.ref C) "__init__" = some (some (.ref fI)) ∧ PySem.W.typeIn K (.ref fI) = some (.type "function") ∧
    K.lookup fI = some ⟨oc, od, .func fd, osl⟩ ∧ exiFn K C arg f fd = true
theorem exiPar_of {arg : Str} {p : Arguments} (h : exiPar arg p = true) : ∃ t1 t2 q1 q2, p = ⟨[], [⟨"self", t1, q1⟩, ⟨arg, t2, q2⟩], none, [], [], none, []⟩ := by
  unfold exiPar at h
  split at h
  · rw [Bool.and_eq_true, beq_iff_eq, beq_iff_eq] at h
    obtain ⟨rfl, rfl⟩ := h
    exact ⟨_, _, _, _, rfl⟩
  · cases h
theorem exiBody_of {f arg : Str} {b : FuncBody} (h : exiBody f arg b = true) : ∃ p0 p1 p2 z k p3 p4 p5 q0 q1 q2 q3,
    b = .stmts [.Expr (.Call (.Attribute (.Call (.Name "super" p0) [] [] p1) "__init__" p2) [.Constant (.str z) k p3] [] p4) p5, .Assign [.Attribute (.Name "self" q0) f q1] (.Name arg q2) q3] ∧ (p2.endLine == p4.line) = true := by
  unfold exiBody at h
  split at h
  · simp only [Bool.and_eq_true, beq_iff_eq] at h
    obtain ⟨rfl, rfl, rfl, rfl, rfl, h⟩ := h
    exact ⟨_, _, _, _, _, _, _, _, _, _, _, _, rfl, by rw [h]; exact beq_self_eq_true _⟩
  · cases h
theorem exiClo_of {K : PySem.W.Frag} {C : Addr} {l : List (Str × Addr)} (h : exiClo K C l = true) : ∃ cc oc od osl, l = [(("__class__" : Str), cc)] ∧ K.lookup cc = some ⟨oc, od, .cell (some (.ref C)), osl⟩ := by
  unfold exiClo at h
  split at h
  · rename_i cn cc
    rw [Bool.and_eq_true, beq_iff_eq] at h
    obtain ⟨rfl, h⟩ := h
    split at h
    · rename_i a b D c e
      obtain rfl := of_decide_eq_true h
      exact ⟨cc, _, _, _, rfl, e⟩
    · cases h
  · cases h
theorem exiCode_of {K : PySem.W.Frag} {v : Value} (h : exiCode K v = true) : ∃ c oc od vs osl t, v = .ref c ∧ K.lookup c = some ⟨oc, od, .fields vs, osl⟩ ∧ vs[2]? = some (.str "/claim/cut.py" t) := by
  unfold exiCode at h
  split at h
  · rename_i c
    split at h
    · rename_i a b vs d e
      unfold exiFile at h
      split at h
      · rename_i z t e2
        obtain rfl := beq_iff_eq.mp h
        exact ⟨c, _, _, _, _, _, rfl, e, e2⟩
      · cases h
    · cases h
  · cases h

section
variable {P : Program} {w : World} {A : Around} {E : Value → Shared → Prop} {K : PySem.W.Frag} {hp : Heap} {g : Array GenState} {d : Drawn} {t : Nat} {os : OsState}
/-- the first field of such an exception -/
theorem exi_set {C x t0 : Addr} {bm : List Value} {B : String} {f : Str} {v : Value} {Q : Unit → Shared → Prop} (SF : StoreFacts B bm "object.__setattr__" "object") (X : K.In hp) (hx : hp.get? x = some (HandSPX.excO C t0))
    (ho : PySem.W.excOver K C bm = true) (sa : PySem.W.findIn K (.ref C) "__setattr__" = some (some (.builtin "object.__setattr__"))) (nf : PySem.W.findIn K (.ref C) f = some none) (hd : PySem.W.hasDictIn K C = true)
    (hq : ∀ h' tk' dx, (∀ b o, b ≠ x → hp.get? b = some o → h'.get? b = some o) → hp.objs.size ≤ dx → dx ≠ x → h'.get? x = some { cls := .ref C, dict := some dx, data := .fields #[.ref t0, .none, .none, .none, .bool false, .none] } →
      h'.Ns1 dx (fun y => if y = f then some v else none) → Q () ⟨h', g, d, tk', os⟩) : wpAny (model P w) A (setAttr (.ref x) f v) Q E ⟨hp, g, d, t, os⟩ := by
  have J : PySem.W.InstAt hp x (HandSPX.excO C t0) C none := ⟨hx, rfl, rfl, trivial⟩
  have tk : PySem.W.takerIn K C f = some none := by unfold PySem.W.takerIn; rw [nf]; rfl
  have far : x ≠ hp.objs.size := Nat.ne_of_lt (Heap.lt_size hx)
  obtain ⟨cd, hc, hdd⟩ := PySem.W.any_some hd
  have lk : PySem.W.Looks (model P w) hp (classData C) cd := PySem.W.looks_clsIn X hc
  refine PySem.W.set_plain X J sa (PySem.W.osa_openX SF X J ho tk fun _ => ?_)
  dsimp only
  obtain ⟨c1, c2, c3, c4, c5, c6, c7, c8, c9, c10, c11⟩ := cd
  dsimp only at hdd
  subst hdd
  unfold Builtin.ObjectAttr.storeInOwnDict Builtin.ObjectAttr.ownDictForStores
  repeat (first
    | with_reducible refine HandSPX.store_in_new ?fresh ?done
    | with_reducible refine wpAny_loadPart_at hx ?_
    | with_reducible refine lk.at ?_
    | wp_step)
  case fresh => exact ⟨_, #[], _, (Heap.get?_update_ne _ _ _ _ far.symm).trans (Heap.get?_push_at rfl rfl), rfl, fun e he => absurd he (by simp), fun _ => rfl⟩
  case done =>
    intro h' tk' hn' hs
    refine hq h' tk' hp.objs.size (fun b o hb eo => ?_) (Nat.le_refl _) far.symm ?_ hn'
    · rw [hs.2 b (Nat.ne_of_lt (Heap.lt_size eo)), Heap.get?_update_ne _ _ _ _ hb]
      exact Heap.get?_push_of_some _ eo
    · rw [hs.2 x far]
      exact Heap.get?_update_self _ (Heap.get?_push_of_some _ hx) rfl
end
end Vc

namespace Vc
open PySem PySem.Spec PyProof.Rows L2
theorem meth_formS {o : Expr} {m : Str} {apos pos : Pos} {args : List Expr} {env : Env} (h2 : noStar args = true) (h3 : args.length < 30) (h4 : (apos.endLine == pos.line) = true) :
    eval (.Call (.Attribute o m apos) args [] pos) env = (do
      let ov ← attributeBase o m env (eval o env)
      standAt apos.atName
      let (f, first) ← holding [ov] (getMethod ov m (do return (← importBound o env).getD true))
      callWith pos f first (backTo pos (starEach args env)) []) := by
  have e1 : methodCallForm (args.length + ([] : List Keyword).length) (backTo pos (starEach args env)) (backToKw pos (keywordEach [] env)) = true := by
    unfold methodCallForm
    rw [star_all h2]
    show (true && (true && decide (args.length + 0 + 0 < 30))) = true
    rw [decide_eq_true (by omega)] <;> rfl
  rw [arm_eval_Call]
  unfold methodCall
  rw [e1]
  unfold calleeOf methodCallPos
  have e2 : (!true || apos.endLine == pos.line) = true := by rw [h4] <;> rfl
  simp only [e2, ↓reduceIte]
  rfl
section
variable {P : Program} {w : World} {A : Around} {E : Value → Shared → Prop} {K : PySem.W.Frag} {hp : Heap} {g : Array GenState} {d : Drawn} {t : Nat} {os : OsState}
variable {C fI : Addr} {bm : List Value} {B newId initId : String} {arg f : Str} {oc : Value} {od : Option Addr} {fd : FuncData} {osl : Array (Option Value)} {mg : Str → Option Value}
/-- its __init__, over the object that was made at e -/
theorem exi_init [PF P] (FB : ExcBaseFacts B newId initId bm) (KF : PySem.W.KxsFacts B initId) (SF : StoreFacts B bm "object.__setattr__" "object") (F : ExiF K C bm B newId initId arg f) (X : K.In hp) (hg : hp.Ns mainGlobals mg)
    (hb : ∃ mb, hp.Ns builtinsNs mb ∧ ∀ x : Str, x ≠ "__name__" → mb x = bootBuiltins x) (nl : hp.NoLimit) (room : A.depth < recursionLimit) (lk : K.lookup fI = some ⟨oc, od, .func fd, osl⟩) (hf : exiFn K C arg f fd = true) {v : Value} {R : Result → Shared → Prop}
    (hbd : ∀ (n1 n2 : Str) (t1 t2 : Option Expr) (r1 r2 : Pos) (b : FuncBody) (sc : Scope) (cl : List (Str × Addr)) (n9 n10 n11 : Value) (n12 : Option Addr) (n13 n14 u v : Value), bindArgs
      { name := n1, qualname := n2, params := ⟨[], [⟨"self", t1, r1⟩, ⟨arg, t2, r2⟩], none, [], [], none, []⟩, body := b, scope := sc, globals := mainGlobals, closure := cl, defaults := .none, kwdefaults := n9, doc := n10, pyModule := n11, annotations := n12, code := n13, closureTuple := n14, builtins := builtinsNs } ⟨[u, v], []⟩ = pure [(("self" : Str), u), (arg, v)])
    (ha : arg ≠ "self") (ha2 : (arg == ("__debug__" : Str)) = false)
    (hq : ∀ h' t' t1 dx, (∀ b o, hp.get? b = some o → h'.get? b = some o) → hp.objs.size ≤ dx → dx ≠ hp.objs.size + 1 →
      h'.get? (hp.objs.size + 1) = some { cls := .ref C, dict := some dx, data := .fields #[.ref t1, .none, .none, .none, .bool false, .none] } → h'.Ns1 dx (fun y => if y = f then some v else none) → R (.ok (.ret .none)) ⟨h', g, d, t', os⟩) :
    codeAny (model P w) A (.call (.ref fI) ⟨[.ref (hp.objs.size + 1), v], []⟩) R ⟨(hp.push (PySem.W.kdv_tup [v])).push (HandSPX.excO C hp.objs.size), g, d, t, os⟩ := by
  unfold exiFn at hf
  simp only [Bool.and_eq_true, decide_eq_true_eq] at hf
  obtain ⟨xbody, hsc, xpar, hglo, hblt, hdef, xclo, hcd, hfile⟩ := hf
  obtain ⟨p0, p1, p2, z, kz, p3, p4, p5, q0, q1, q2, q3, hbody, hline⟩ := exiBody_of xbody
  obtain ⟨pt1, pt2, pq1, pq2, hpar⟩ := exiPar_of xpar
  obtain ⟨cc, coc, cod, cosl, hclo, hcell⟩ := exiClo_of xclo
  obtain ⟨cda, doc, dod, dvs, dosl, dt, hcode, hcodeO, hvs⟩ := exiCode_of hfile
  unfold exiScope at hsc
  simp only [Bool.and_eq_true, decide_eq_true_eq, Bool.not_eq_true', List.all_eq_true, decide_eq_false_iff_not] at hsc
  obtain ⟨sk, sco, sgen, ssup, scls, sself, sarg, scell⟩ := hsc
  clear xbody xpar xclo hfile
  obtain ⟨n1, n2, n3, n4, n5, n6, n7, n8, n9, n10, n11, n12, n13, n14, n15⟩ := fd
  dsimp only at hbody hpar hclo hcode sk sco sgen ssup scls sself sarg scell hglo hblt hdef hcd
  subst hbody hpar hclo hcode hglo hblt hdef
  have k2 : ∀ b o, hp.get? b = some o → ((hp.push (PySem.W.kdv_tup [v])).push (HandSPX.excO C hp.objs.size)).get? b = some o := fun b o e => Heap.get?_push_of_some _ (Heap.get?_push_of_some _ e)
  have sz2 : ((hp.push (PySem.W.kdv_tup [v])).push (HandSPX.excO C hp.objs.size)).objs.size = hp.objs.size + 2 := by
    rw [Heap.size_push, Heap.size_push]
  have he2 : ((hp.push (PySem.W.kdv_tup [v])).push (HandSPX.excO C hp.objs.size)).get? (hp.objs.size + 1) = some (HandSPX.excO C hp.objs.size) := by heap_get
  refine PySem.ks_codeAny_call_defAt (binds := [("self", .ref (hp.objs.size + 1)), (arg, v)]) room (k2 _ _ (X _ _ lk)) rfl (nl.keeps k2) (PySem.W.codeRec_of (X.keeps k2) hcd) rfl (BindsTo.of_eq (hbd ..)) scell (fun y hy => ?_) (fun h₁ hns k1 => ?_) sco sgen sk
  · simp only [List.mem_cons, List.not_mem_nil, or_false] at hy
    rcases hy with rfl | rfl
    · exact sself
    · exact sarg
  have fr : Fr hp ((hp.push (PySem.W.kdv_tup [v])).push (HandSPX.excO C hp.objs.size)).objs.size h₁ fun x => [(("self" : Str), Value.ref (hp.objs.size + 1)), (arg, v)].reverse.lookup x := ⟨hns, fun b o e => k1 b o (k2 b o e), by rw [sz2]; exact Nat.le_add_right _ _⟩
  have lkA : [(("self" : Str), Value.ref (hp.objs.size + 1)), (arg, v)].reverse.lookup arg = some v := by simp
  have lkS : [(("self" : Str), Value.ref (hp.objs.size + 1)), (arg, v)].reverse.lookup ("self" : Str) = some (.ref (hp.objs.size + 1)) := by
    have : (("self" : Str) == arg) = false := by simpa using fun e => ha e.symm
    simp [List.lookup, this]
  have nw : News hp ((hp.push (PySem.W.kdv_tup [v])).push (HandSPX.excO C hp.objs.size)).objs.size h₁ [(hp.objs.size + 1, HandSPX.excO C hp.objs.size)] := fun p hp' => by
    obtain rfl := List.mem_singleton.mp hp'
    refine ⟨k1 _ _ he2, by show hp.objs.size + 1 ≠ _; rw [sz2]; omega, ?_⟩
    cases e : hp.get? (hp.objs.size + 1) with
    | none => rfl
    | some o => exact absurd (Heap.lt_size e) (Nat.not_lt.mpr (Nat.le_succ _))
  generalize ((hp.push (PySem.W.kdv_tup [v])).push (HandSPX.excO C hp.objs.size)).objs.size = L at fr nw ⊢
  generalize hfd : ({ name := n1, qualname := n2, params := ⟨[], [⟨"self", pt1, pq1⟩, ⟨arg, pt2, pq2⟩], none, [], [], none, []⟩, body := .stmts _, scope := n5, globals := mainGlobals, closure := [(("__class__" : Str), cc)], defaults := .none, kwdefaults := n9, doc := n10, pyModule := n11, annotations := n12, code := .ref cda, closureTuple := n14, builtins := builtinsNs } : FuncData) = fd at lk ⊢
  have e1 : (callEnv fd L fI).scope = n5 := by rw [← hfd]; rfl
  have kS : (callEnv fd L fI).kindOf "super" = some .globalImplicit := by show (callEnv fd L fI).scope.names.lookup _ = _; rw [e1]; exact ssup
  have kC : (callEnv fd L fI).kindOf "__class__" = some .free := by show (callEnv fd L fI).scope.names.lookup _ = _; rw [e1]; exact scls
  have kse : (callEnv fd L fI).kindOf "self" = some .local := by show (callEnv fd L fI).scope.names.lookup _ = _; rw [e1]; exact sself
  have kar : (callEnv fd L fI).kindOf arg = some .local := by show (callEnv fd L fI).scope.names.lookup _ = _; rw [e1]; exact sarg
  have kk : (callEnv fd L fI).scope.kind = .function := by rw [e1]; exact sk
  have eg : (callEnv fd L fI).globals = mainGlobals := by rw [← hfd]; rfl
  have eb : (callEnv fd L fI).builtins = builtinsNs := by rw [← hfd]; rfl
  have ec : (callEnv fd L fI).cells = [(("__class__" : Str), cc)] := by rw [← hfd]; rfl
  have eco : (callEnv fd L fI).code = .ref cda := by rw [← hfd]; rfl
  have el : (callEnv fd L fI).locals = L := by rw [← hfd]; rfl
  have efn : (callEnv fd L fI).func = some fI := by rw [← hfd]; rfl
  have epa : (fd.params.posonlyargs ++ fd.params.args).head? = some ⟨"self", pt1, pq1⟩ := by rw [← hfd]; rfl
  generalize callEnv fd L fI = env at kS kC kse kar kk eg eb ec eco el efn e1 ⊢
  have X1 : K.In h₁ := X.keeps fr.keep
  obtain ⟨cdC, hcC⟩ : ∃ cd, PySem.W.clsIn K C = some cd := by
    have := F.mr
    unfold PySem.W.mroIn at this
    cases e : PySem.W.clsIn K C with
    | none => rw [e] at this; cases this
    | some cd => exact ⟨cd, rfl⟩
  obtain ⟨oD, hD1, hD2⟩ : ∃ oD, h₁.get? C = some oD ∧ oD.data = .cls cdC := by
    have e := hcC
    unfold PySem.W.clsIn at e
    split at e
    · rename_i c d cd' sl ho
      cases e
      exact ⟨_, X1 _ _ ho, rfl⟩
    · cases e
  have J : PySem.W.InstAt h₁ (hp.objs.size + 1) (HandSPX.excO C hp.objs.size) C none := ⟨(nw _ List.mem_cons_self).1, rfl, rfl, trivial⟩
  have ne : hp.objs.size + 1 ≠ C := PySem.W.ks_ne X1 J hcC
  refine PySem.ks_wpAt_execs_cons (PySem.ks_wpAt_Expr_any (PySem.ks_wpAt_MethodCall (PySem.ks_wpAt_super_base kS kC (by decide) efn (X1 _ _ lk) rfl epa eco (X1 _ _ hcodeO) rfl hvs PF.file PF.sup ?_) (meth_formS rfl (Nat.lt_of_sub_pos (by exact Nat.succ_pos 28)) hline)) (by simp [interactive, kk]))
  refine PySem.W.ks_loadName_global kk kS ?_
  obtain ⟨mb, hb1, hb2⟩ := hb
  refine Calls.loadGlobal_builtin (by rw [eg]; exact hg.keeps fr.keep) (PySem.W.mg_none_of X hg F.ns) (by rw [eb]; exact hb1.keeps fr.keep) (v := .type "super") ((hb2 _ (by decide)).trans PyProof.Rows.Boot.super) ⟨rfl, ?_⟩
  refine wpAny_loadName_free kk kC (c := cc) (by rw [ec]; rfl) ⟨_, X1 _ _ hcell, rfl⟩ ?_
  refine wpAny_loadName_local kk kse (by rw [el]; exact fr.ns) lkS ?_
  refine PySem.ks_wpAny_isType_cls hD1 hD2 ⟨rfl, ?_⟩
  refine PySem.ks_wpAny_call_super hD1 hD2 J.at_ J.cls (fun c e => nomatch e) (PySem.W.looks_mroIn X1 F.mr) (fun h₂ eso k3 => ?_)
  have F2 : Fr hp L h₂ _ := ⟨fr.ns.keeps k3, fun b o e => k3 b o (fr.keep b o e), fr.above⟩
  have X2 : K.In h₂ := X.keeps F2.keep
  have J2 : PySem.W.InstAt h₂ (hp.objs.size + 1) (HandSPX.excO C hp.objs.size) C none := ⟨k3 _ _ J.at_, rfl, rfl, trivial⟩
  have hm := F.su
  unfold PySem.W.ks_superIn at hm
  rw [hcC] at hm
  have hI : PySem.W.Looks (model P w) h₂ (isInstance (.ref (hp.objs.size + 1)) (.type B)) true := J2.type.andThen (PySem.W.looks_subIn X2 F.sB)
  refine PySem.W.kxs_getMethod KF eso (PySem.W.looks_opaque X2 F.op) (l₀ := cdC.mro) (fun A Q E s k q => wpAny_bind ((PySem.W.looks_clsIn X2 hcC) A _ E s k (wpAny_pure q))) rfl X2 hm hI ne (by decide) ?_
  have keepU : ∀ b o, h₂.get? b = some o → (h₂.push (PySem.W.kxs_mw initId (hp.objs.size + 1))).get? b = some o := fun b o e => Heap.get?_push_of_some _ e
  have hu : (h₂.push (PySem.W.kxs_mw initId (hp.objs.size + 1))).get? h₂.objs.size = some (PySem.W.kxs_mw initId (hp.objs.size + 1)) := Heap.get?_push_size _ rfl
  have F3 : Fr hp L (h₂.push (PySem.W.kxs_mw initId (hp.objs.size + 1))) _ := ⟨F2.ns.keeps keepU, fun b o e => keepU b o (F2.keep b o e), F2.above⟩
  have ltL : L < h₂.objs.size := let ⟨_, _, _, e, _⟩ := F2.ns; Heap.lt_size e
  have N3 : News hp L (h₂.push (PySem.W.kxs_mw initId (hp.objs.size + 1))) [(h₂.objs.size, PySem.W.kxs_mw initId (hp.objs.size + 1)), (hp.objs.size + 1, PySem.W.excObj C hp.objs.size none .none)] := fun p hp' => by
    rcases List.mem_cons.mp hp' with rfl | hp'
    · refine ⟨hu, fun z => Nat.lt_irrefl _ (Nat.lt_of_lt_of_eq ltL z), ?_⟩
      cases e : hp.get? h₂.objs.size with
      | none => rfl
      | some o => exact absurd (Heap.lt_size (F2.keep _ _ e)) (Nat.lt_irrefl _)
    · have := nw p hp'
      exact ⟨keepU _ _ (k3 _ _ this.1), this.2⟩
  refine PySem.W.kxs_callWith1 N3 List.mem_cons_self ?_
  refine Calls.spliced_cons (Calls.Constant_str (k := kz) (pos := p3) (Calls.spliced_nil ⟨hu, ?_⟩))
  have U3 : PySem.W.UpdF (hp.objs.size + 1) (PySem.W.excObj C hp.objs.size none .none) [(h₂.objs.size, PySem.W.kxs_mw initId (hp.objs.size + 1)), (hp.objs.size + 1, PySem.W.excObj C hp.objs.size none .none)] (fun o' => [(h₂.objs.size, PySem.W.kxs_mw initId (hp.objs.size + 1)), (hp.objs.size + 1, o')]) :=
    .tail (Nat.ne_of_gt (Heap.lt_size (k3 _ _ J.at_))) (.head fun p h => nomatch h)
  refine PySem.W.kxs_call F3 X N3 FB F.i List.mem_cons_self U3 (by show 1 ≤ sizeLine; rw [sizeLine_eq]; omega) fun t' h₃ F4 N4 lt4 => ?_
  refine PySem.ks_wpAt_execs_cons (PySem.ks_wpAt_Assign_Attr (by
    refine PySem.wpAt_of_wpAny ?_
    refine wpAny_Name (wpAny_loadName_local kk kar (by rw [el]; exact F4.ns) lkA ?_) ha2
    refine wpAny_Name (wpAny_loadName_local kk kse (by rw [el]; exact F4.ns) lkS ?_) (by decide)
    refine exi_set SF (X.keeps F4.keep) (N4 (hp.objs.size + 1, PySem.W.excObj C t' none .none) (by simp)).1 F.o F.sa F.nf F.hd fun h₄ tk' dx k4 ge nedx hx4 hns4 => ?_
    refine PySem.wpAt_of_wpAny (wpAny_pure ?_)
    refine hq h₄ tk' t' dx (fun b o e => k4 b o (fun z => ?_) (F4.keep b o e)) (Nat.le_trans ?_ ge) nedx hx4 hns4
    · rw [z] at e
      exact absurd (Heap.lt_size e) (Nat.not_lt.mpr (Nat.le_succ _))
    · exact Nat.le_trans F4.above (Nat.le_of_lt (let ⟨_, _, _, e, _⟩ := F4.ns; Heap.lt_size e))) rfl)
end
end Vc

namespace Vc
open PySem PySem.Spec PyProof.Rows L2

/-- an own exception with __init__, looked at by the head -/
def fExi (x : Str) (bm : List Value) (B newId initId : String) (arg f : Str) : Fact := fun K =>
  PySem.W.excInitIn K (He.ga K x) bm newId && (PySem.W.excOver K (He.ga K x) bm && (decide (PySem.W.subIn K (.ref (He.ga K x)) (.type "BaseException") = some true) && (decide (PySem.W.typeIn K (.ref (He.ga K x)) = some (.type "type")) &&
  (PySem.W.keepIn K (.ref (He.ga K x)) && (decide (PySem.W.findIn K (.ref (He.ga K x)) "__setattr__" = some (some (.builtin "object.__setattr__"))) && (decide (PySem.W.findIn K (.ref (He.ga K x)) f = some none) && (PySem.W.hasDictIn K (He.ga K x) &&
  (decide (PySem.W.nsIn K cStatics "thirdparty.any" = some none) && (decide (PySem.W.ks_superIn K (He.ga K x) (He.ga K x) "__init__" = some (some (.builtin initId))) && (decide (PySem.W.subIn K (.ref (He.ga K x)) (.type B) = some true) &&
  (decide (PySem.W.mroIn K (He.ga K x) (.ref (He.ga K x)) = some true) && (decide (PySem.W.nsIn K mainGlobals "super" = some none) &&
  (decide (PySem.W.findIn K (.ref (He.ga K x)) "__init__" = some (some (.ref (He.ma K (He.ga K x) "__init__")))) && (decide (PySem.W.typeIn K (.ref (He.ma K (He.ga K x) "__init__")) = some (.type "function")) &&
  (match K.lookup (He.ma K (He.ga K x) "__init__") with
    | some ⟨_, _, .func fd, _⟩ => exiFn K (He.ga K x) arg f fd
    | _ => false)))))))))))))))
theorem exi_of {K : PySem.W.Frag} {x : Str} {bm : List Value} {B newId initId : String} {arg f : Str} (h : fExi x bm B newId initId arg f K = true) : ExiF K (He.ga K x) bm B newId initId arg f := by
  unfold fExi at h
  simp only [Bool.and_eq_true, decide_eq_true_eq] at h
  obtain ⟨h1, h2, h3, h4, h5, h6, h7, h8, h9, h10, h11, h12, h13, h14, h15, h16⟩ := h
  refine ⟨h1, h2, h3, h4, h5, h6, h7, h8, h9, h10, h11, h12, h13, He.ma K (He.ga K x) "__init__", ?_⟩
  split at h16
  · rename_i a b fd c e
    exact ⟨a, b, fd, c, h14, h15, e, h16⟩
  · cases h16
section
variable {P : Program} {w : World} {K : PySem.W.Frag} {mg : Str → Option Value} {base : Heap} {k : Nat} {X : Cx} {W : WX} {σ : L2.St} {H : Hp} {Q : VK}
def BindsE (arg : Str) : Prop := ∀ (n1 n2 : Str) (t1 t2 : Option Expr) (r1 r2 : Pos) (b : FuncBody) (sc : Scope) (cl : List (Str × Addr)) (n9 n10 n11 : Value) (n12 : Option Addr) (n13 n14 u v : Value), bindArgs
      { name := n1, qualname := n2, params := ⟨[], [⟨"self", t1, r1⟩, ⟨arg, t2, r2⟩], none, [], [], none, []⟩, body := b, scope := sc, globals := mainGlobals, closure := cl, defaults := .none, kwdefaults := n9, doc := n10, pyModule := n11, annotations := n12, code := n13, closureTuple := n14, builtins := builtinsNs } ⟨[u, v], []⟩ = pure [(("self" : Str), u), (arg, v)]
theorem mk_exiH [PF P] {Cc : Addr} {bm : List Value} {B newId initId : String} {arg f : Str} {v : V} {R : XK} (C : CtxH P w K mg base k X) (hk : 1 ≤ k) (FB : ExcBaseFacts B newId initId bm) (KF : PySem.W.KxsFacts B initId) (SF : StoreFacts B bm "object.__setattr__" "object")
    (F : ExiF K Cc bm B newId initId arg f) (hbd : BindsE arg) (ha : arg ≠ "self") (ha2 : (arg == ("__debug__" : Str)) = false) (q : ∀ d, H d = none → R (.ref Cc) (some d) (upd H d (.xd [(f, v)]))) : MkV X (.ref Cc) [v] σ H R := by
  obtain ⟨rfl, rfl, rfl, rfl, rfl, hr⟩ := C
  intro pins s us I rv
  obtain ⟨u, rfl, ru⟩ := rv.one
  obtain ⟨nm, N, qn, bs, bm2, hdct, sn, sub, ab, col, dd, k0, k1, k2, k3, k5, hC, hT⟩ := PySem.W.excInit_of I.kIn F.i
  obtain ⟨fI, oc, od, fd, osl, iC, tI, lk, hf⟩ := F.fn
  have hr1 : L2H.RoomH (0 + 1) X.A := hr.mono hk
  obtain ⟨hp, g, dr, tks, os⟩ := s
  refine wpAny_call (HandSPX.call_own FB hT hC (PySem.W.looks_findIn I.kIn iC) (fun self => PySem.W.bind_fn I.kIn self tI) (by show 1 ≤ sizeLine; rw [sizeLine_eq]; omega) ?_)
  refine exi_init FB KF SF F I.kIn (I.mod.glob.keeps I.bk) (let ⟨mb, h1, h2⟩ := I.mod.blt; ⟨mb, h1.keeps I.bk, h2⟩) I.nolimit (hr1.make Cc [u] []).depth lk hf hbd ha ha2 fun h' t' t1 dx kp ge ne hx hns => ?_
  refine ⟨rfl, ?_⟩
  obtain ⟨G, g1, g2⟩ := restrict h' fun b => decide (b ≠ hp.objs.size + 1)
  have gk : ∀ b, b ≠ hp.objs.size + 1 → G.get? b = h'.get? b := fun b hb => g1 b (decide_eq_true hb)
  have ge' : G.get? (hp.objs.size + 1) = none := g2 _ (by simp)
  have nd : H dx = none := I.hok.fresh ge
  have nx : H (hp.objs.size + 1) = none := I.hok.fresh (Nat.le_succ _)
  have J : Inv X pins σ (upd H dx (.xd [(f, v)])) ⟨G, g, dr, t', os⟩ := I.laid (t' := t') (a := dx) (o := .xd [(f, v)]) (h' := G)
    (fun b o e => (gk b (Nat.ne_of_lt (Nat.lt_succ_of_lt (Heap.lt_size e)))).trans (kp b o e)) ge
    ⟨_, hns.at fun o z => (gk dx ne).trans z, fun y => relO_put (fs := []) (mA := fun _ => none) ru (fun _ => True.intro) y⟩
  refine ⟨⟨hp.objs.size + 1, _, _, ⟨G, g, dr, t', os⟩, _, .ref Cc, some dx, rfl, J, fun b o z => ?_, ge', hx, ⟨rfl, rfl, fun vs z => by cases z; rfl⟩, rfl, rfl, ?_, rfl, I.bare, raises_own F.s F.t, ⟨_, rfl⟩, q dx nd⟩, fun a oe vs ea hg hd => ?_⟩
  · by_cases hb : b = hp.objs.size + 1
    · rw [hb, ge'] at z
      cases z
    · exact (gk b hb).symm.trans z
  · rw [upd_ne (Ne.symm ne)]
    exact nx
  · cases ea
    have hg' : h'.get? (hp.objs.size + 1) = some oe := hg
    rw [hx] at hg'
    cases hg'
    cases hd
    show (4 : Nat) < 6
    decide
theorem mk_exi [PF P] {Cc : Addr} {bm : List Value} {B newId initId : String} {arg f : Str} {v : V} {R : XK} (C : Ctx P w K mg base k X W) (hk : 1 ≤ k) (FB : ExcBaseFacts B newId initId bm) (KF : PySem.W.KxsFacts B initId) (SF : StoreFacts B bm "object.__setattr__" "object")
    (F : ExiF K Cc bm B newId initId arg f) (hbd : BindsE arg) (ha : arg ≠ "self") (ha2 : (arg == ("__debug__" : Str)) = false) (q : ∀ d, H d = none → R (.ref Cc) (some d) (upd H d (.xd [(f, v)]))) : MkV X (.ref Cc) [v] σ H R := mk_exiH C.h hk FB KF SF F hbd ha ha2 q
/-- e.f in an except suite -/
theorem atr_exc {Cc a dd : Addr} {oe : Obj} {pn : List (Addr × Obj)} {n : Str} {v : V} {fs : List (Str × V)} (C : Ctx P w K mg base k X W) (T : XfC K Cc) (hno : PySem.W.findIn K (.ref Cc) n = some none) (hz : Zc (.ref Cc) (some dd) oe) (hf : ∃ vs, oe.data = .fields vs)
    (h : H dd = some (.xd fs)) (l : fs.lookup n = some v) (q : Q v H) : O1 (X.suite a ((a, oe) :: pn)) (fun v => getAttr v n true) (.ref a) σ H Q := by
  obtain ⟨rfl, rfl, rfl, rfl, rfl, hr, tk, _⟩ := C
  intro pins s u I rx
  cases rx
  obtain ⟨ha, _⟩ := I.pin (a, oe) (List.mem_append_left _ List.mem_cons_self)
  obtain ⟨vs, hd⟩ := hf
  have hx : ObjOk X.prog X.w H s.heap dd (.xd fs) := I.hok dd _ h
  obtain ⟨mA, hns, hr⟩ := hx
  obtain ⟨od, ho, hl⟩ := lookIn_ns hns
  obtain ⟨u, hu, ru⟩ := RelO.some_of (v := v) (o := mA n) (by rw [← l]; exact hr n)
  have J : PySem.W.InstAt s.heap a oe Cc (some od) := ⟨ha, hz.1, by unfold PySem.W.notCls; rw [hd] <;> rfl, by rw [hz.2]; exact ho⟩
  have kin : X.K.In s.heap := I.kIn
  exact HandSPX.exc_get kin J T.ga T.gg T.exC (PySem.W.findObj_own T.hdC hno rfl (by rw [hl, hu])) (handed_of ru) ⟨v, H, I.tok _, ru, q⟩
/-- isinstance(e, c) in an except suite, e with a field -/
theorem isi_excD {D a dd : Addr} {oe : Obj} {pn : List (Addr × Obj)} {fs : List (Str × V)} {c : V} {cv : Value} {b : Bool} (C : Ctx P w K mg base k X W) (e : ExcC K D) (hz : Zc (.ref D) (some dd) oe) (hf : ∃ vs, oe.data = .fields vs) (h : H dd = some (.xd fs)) (hc : ∀ u, RelV c u → u = cv)
    (kk : PySem.W.kitOne K (.ref D) cv = some b) (q : Q (.bl b) H) : CV (X.suite a ((a, oe) :: pn)) (.builtin "isinstance") [.ref a, c] σ H Q := by
  obtain ⟨rfl, rfl, rfl, rfl, rfl, hr, tk, _⟩ := C
  intro pins s us I rv
  cases rv with
  | cons rx rr =>
    cases rr with
    | cons rt rr =>
      cases rr
      cases rx
      have ec := hc _ rt
      subst ec
      obtain ⟨hget, _⟩ := I.pin (a, oe) (List.mem_append.mpr (.inl List.mem_cons_self))
      obtain ⟨vs, hv⟩ := hf
      have hx : ObjOk X.prog X.w H s.heap dd (.xd fs) := I.hok dd _ h
      obtain ⟨mA, hns, hr⟩ := hx
      obtain ⟨od, ho, hl⟩ := lookIn_ns hns
      have J : PySem.W.InstAt s.heap a oe D (some od) := ⟨hget, hz.1, by unfold PySem.W.notCls; rw [hv] <;> rfl, by rw [hz.2]; exact ho⟩
      obtain ⟨cdD, hcD, _⟩ := PySem.W.any_some e.hd
      have kin : X.K.In s.heap := I.kIn
      exact PySem.W.kia_one (PySem.W.kitx_exc (od := some od) (by rw [hcD]; rfl) e.hg e.hk e.hs e.ha e.hn e.ht e.hm) kin J kk (fun z => nomatch z) fun tk => ⟨.bl b, H, I.kept (t' := tk) fun _ _ z => z, rfl, q⟩
end
def fXf (x : Str) : Fact := fun K => xfB K (He.ga K x)
theorem xf_of {K : PySem.W.Frag} {x : Str} (h : fXf x K = true) : XfC K (He.ga K x) := xfB_ok h
end Vc

namespace Vc
open PySem PySem.Spec PyProof.Rows L2
section
variable {P : Program} {w : World} {K : PySem.W.Frag} {mg : Str → Option Value} {base : Heap} {k : Nat} {X Y : Cx} {W : WX} {σ : L2.St} {H : Hp} {Q : VK} {g : TG} {gs : TGs} {tb : TS} {D : Ends} {ta : TA}
/-! ### targets taken apart -/
theorem s_gnil {R : L2.St → Hp → Prop} (q : R σ H) : gNil [] σ H R := ⟨rfl, q⟩
theorem s_gcons {x : V} {xs : List V} {R : L2.St → Hp → Prop} (q : g x σ H fun σ1 H1 => gs xs σ1 H1 R) : gCons g gs (x :: xs) σ H R := ⟨x, xs, rfl, q⟩
theorem s_unpT {a : Addr} {n : Nat} {xs : List V} {R : L2.St → Hp → Prop} (h : SqT K H a xs) (hl : xs.length = n) (q : gs xs σ H R) : gUnp K n gs (.ref a) σ H R := ⟨a, xs, rfl, .inl h, hl, q⟩
theorem s_unpL {a : Addr} {n : Nat} {xs : List V} {R : L2.St → Hp → Prop} (h : SqL K H a xs) (hl : xs.length = n) (q : gs xs σ H R) : gUnp K n gs (.ref a) σ H R := ⟨a, xs, rfl, .inr h, hl, q⟩
/-! ### enumerate -/
theorem s_forEn (m : X.mg "enumerate" = none) (q : ta σ H fun vs H1 => (∃ a xs, vs = [.ref a] ∧ SqL X.K H1 a xs ∧ Lp (Ite X.K a) g tb D σ H1) ∨ ∃ x : Str, vs = [.str x] ∧ Lp (Itse x) g tb D σ H1) : tForO (iEnu X ta) g tb D σ H := .inl ⟨m, q⟩
theorem lp_enT {a : List Nat} (Pv : Nat → L2.St → Hp → Prop) (h0 : Pv 0 σ H)
    (hs : ∀ i c σ H T, a[i]? = some c → Pv i σ H → H T = none → g (.ref T) σ (upd H T (.tup [.int (i : Nat), .str (tx [c])])) fun σ2 H2 => tb { D with nx := Pv (i + 1), ct := Pv (i + 1), bk := D.nx } σ2 H2) (hd : ∀ σ H, Pv a.length σ H → D.nx σ H) : Lp (Itse (tx a)) g tb D σ H := by
  refine ⟨fun i m σ H => m = a.length - i ∧ i ≤ a.length ∧ Pv i σ H, ⟨a.length, by simp, Nat.zero_le _, h0⟩, ?_⟩
  rintro i m σ H ⟨rfl, hi, p⟩
  have hsz : (tx a).cps.size = a.length := tx_len a
  by_cases hlt : i < a.length
  · refine .inr ⟨by show i < (tx a).cps.size; omega, Pv (i + 1), fun σ' H' p' => ⟨a.length - (i + 1), by omega, rfl, hlt, p'⟩, fun x H' y => ?_⟩
    obtain ⟨T, c, e, hT, eh, hc⟩ := y
    subst e eh
    exact hs i c _ _ T (its_at hc) p hT
  · have e : i = a.length := by omega
    subst e
    exact .inl ⟨by show (tx a).cps.size = a.length; omega, hd _ _ p⟩
theorem lp_enL {p : Addr} {xs : List V} (Pv : Nat → L2.St → Hp → Prop) (h0 : Pv 0 σ H) (hl : ∀ i σ H, i ≤ xs.length → Pv i σ H → SqL K H p xs)
    (hs : ∀ i x σ H T, xs[i]? = some x → Pv i σ H → H T = none → g (.ref T) σ (upd H T (.tup [.int (i : Nat), x])) fun σ2 H2 => tb { D with nx := Pv (i + 1), ct := Pv (i + 1), bk := D.nx } σ2 H2) (hd : ∀ σ H, Pv xs.length σ H → D.nx σ H) : Lp (Ite K p) g tb D σ H := by
  refine ⟨fun i m σ H => m = xs.length - i ∧ i ≤ xs.length ∧ Pv i σ H, ⟨xs.length, by simp, Nat.zero_le _, h0⟩, ?_⟩
  rintro i m σ H ⟨rfl, hi, p'⟩
  have hq := hl i σ H hi p'
  by_cases hlt : i < xs.length
  · refine .inr ⟨⟨xs, xs[i], hq, List.getElem?_eq_getElem hlt⟩, Pv (i + 1), fun σ' H' p' => ⟨xs.length - (i + 1), by omega, rfl, hlt, p'⟩, fun x H' y => ?_⟩
    obtain ⟨T, c, e, hT, eh, hc⟩ := y
    subst e eh
    exact hs i c _ _ T (hc xs hq) p' hT
  · have e : i = xs.length := by omega
    subst e
    exact .inl ⟨⟨xs, hq, Nat.le_refl _⟩, hd _ _ p'⟩
/-! ### texts repeated and joined -/
theorem foldl_repL (a : List Nat) : ∀ (n : Nat) (acc : Array Nat), (List.replicate n a.toArray).foldl (· ++ ·) acc = acc ++ (List.replicate n a).flatten.toArray
  | 0, acc => by simp
  | n + 1, acc => by
    rw [List.replicate_succ, List.foldl_cons, foldl_repL a n]
    apply Array.ext'
    simp [List.replicate_succ]
theorem mul_tx {a : List Nat} {n : Int} (h0 : 0 ≤ n) (h1 : n ≤ 100000) (h2 : a.length * n.toNat ≤ 100000) (q : Q (.str (tx (List.replicate n.toNat a).flatten)) H) : O2 X (binaryOp .Mult) (.str (tx a)) (.int n) σ H Q := by
  intro pins s v u I rx ry
  obtain ⟨t, rfl⟩ := rx
  obtain ⟨t', rfl⟩ := ry
  have hl : (tx a).length = a.length := tx_len a
  refine PySem.P.mul_str (by rw [decide_eq_false (by omega), decide_eq_false (by omega)]; rfl) (fun x y => ?_) (fun x y => ?_) ?_
  · rw [hl]
    have n1 : 1 ≤ n.toNat := by omega
    have la : a.length ≤ 100000 := Nat.le_trans (Nat.le_mul_of_pos_right _ n1) h2
    have h3 : 100000 ≤ (2 ^ 63 - 1) / n := by
      rw [Int.le_ediv_iff_mul_le (by omega)]
      omega
    omega
  · rw [hl]
    show decide _ = false
    simp only [decide_eq_false_iff_not]
    have : sizeLine = 16777216 := sizeLine_eq
    omega
  · by_cases x : n < 1
    · rw [if_pos x]
      have e : n.toNat = 0 := by omega
      rw [e] at q
      exact ⟨by decide, .str _, H, I.tok _, ⟨_, rfl⟩, q⟩
    · rw [if_neg x]
      by_cases b : (n == 1 || (tx a).length == 0) = true
      · rw [if_pos b]
        rw [Bool.or_eq_true, beq_iff_eq, beq_iff_eq, hl] at b
        have e : (List.replicate n.toNat a).flatten = a := by
          rcases b with b | b
          · subst b
            simp
          · obtain rfl := List.eq_nil_of_length_eq_zero b
            simp
        rw [e] at q
        exact ⟨.str _, H, I, ⟨_, rfl⟩, q⟩
      · rw [if_neg b]
        have e : (⟨(List.replicate n.toNat (tx a).cps).foldl (· ++ ·) #[]⟩ : Str) = tx (List.replicate n.toNat a).flatten := by
          unfold tx
          rw [foldl_repL]
          simp
        rw [e]
        refine ⟨?_, .str _, H, I.tok _, ⟨_, rfl⟩, q⟩
        rw [tx_len, List.length_flatten, List.map_replicate, List.sum_replicate_nat]
        refine sz2 ?_
        rw [Nat.mul_comm]
        exact h2
theorem join_e : ∀ ls : List (List Nat), Str.join (tx []) (ls.map tx) = tx ls.flatten
  | [] => rfl
  | [a] => by simp [Str.join]
  | a :: b :: r => by
    have ih := join_e (b :: r)
    show tx a ++ tx [] ++ Str.join (tx []) ((b :: r).map tx) = _
    rw [ih]
    simp only [tx_app]
    simp
theorem CV.ofR {id : String} {r : V → List V → Hp → VK → Prop} {x : V} {vs : List V} (h : MtR X id r) (q : r x vs H Q) : CV X (.builtin id) (x :: vs) σ H Q := fun pins s us I rv => by
  cases rv with
  | cons rx rr => exact h pins s σ H x vs _ _ Q I rx rr q
theorem join_tx {p : Addr} {ls : List (List Nat)} (C : Ctx P w K mg base k X W) (h : SqL K H p (ls.map fun l => V.str (tx l))) (hz : ls.flatten.length ≤ 100000) (q : Q (.str (tx ls.flatten)) H) : CV X (.builtin "str.join") [.str (tx []), .ref p] σ H Q := by
  have hK := C.K
  subst hK
  refine .ofR mt_join ⟨tx [], p, ls.map tx, rfl, rfl, .inl (by rw [List.map_map]; exact h), ?_, ?_⟩
  · rw [List.map_map, show (Str.length ∘ tx) = List.length from funext tx_len, ← List.length_flatten, tx_len]
    show ls.flatten.length + (ls.map tx).length * 0 ≤ _
    omega
  · have e : Txt.join (tx []) (ls.map tx) = tx ls.flatten := (StrLaws.glued_eq_join _ _).trans (join_e ls)
    rw [e]
    exact q
theorem mth_join {x : Str} : Mth X "join" (.str x) H (.builtin "str.join") := .blt PySem.F.plainAttrs_str PySem.F.slot_str_join PySem.F.type_str_join (show "str" = "str" from rfl)
end
end Vc

namespace Vc
open PySem PySem.Spec PyProof.Rows L2

/-! ### texts of signs and rows -/
def itm (cs : List Nat) : List Int := cs.map fun c : Nat => (c : Int) - 48
def sgn (i : Int) : Nat := (i + 48).toNat
def txr (c : Int) (ns : List Int) : List Nat := (ex c ns).map sgn
theorem snoc_ind {α : Type} {p : List α → Prop} (h0 : p []) (hs : ∀ l x, p l → p (l ++ [x])) (l : List α) : p l := by
  have : ∀ r : List α, p r.reverse := fun r => by
    induction r with
    | nil => exact h0
    | cons x r ih => rw [List.reverse_cons]; exact hs _ _ ih
  have z := this l.reverse
  rwa [List.reverse_reverse] at z
theorem bits_app {a b : List Nat} : Bits (a ++ b) ↔ Bits a ∧ Bits b := by
  constructor
  · exact fun h => ⟨fun c hc => h c (List.mem_append_left _ hc), fun c hc => h c (List.mem_append_right _ hc)⟩
  · rintro ⟨h1, h2⟩ c hc
    rcases List.mem_append.mp hc with h | h
    · exact h1 c h
    · exact h2 c h
theorem goR_snoc (cs : List Nat) (c : Nat) : goR (cs ++ [c]) = stR (goR cs) c := by
  unfold goR
  rw [List.foldl_append]
  rfl
theorem firstR_app {cs : List Nat} (h : cs ≠ []) (b : List Nat) : firstR (cs ++ b) = firstR cs := by
  cases cs with
  | nil => exact absurd rfl h
  | cons c cs => rfl
theorem go_snd_last {cs : List Nat} {c : Nat} : (goR (cs ++ [c])).2 = [c] := by
  rw [goR_snoc]
  rfl
theorem runs_ex0 (cs : List Nat) : Bits cs → ex (firstR cs) (runsR cs) = itm cs ∧ ∀ d, (goR cs).2 = [d] → runsR cs ≠ [] ∧ alt (firstR cs) ((runsR cs).length - 1) = (d : Int) - 48 := by
  refine snoc_ind (p := fun cs => Bits cs → ex (firstR cs) (runsR cs) = itm cs ∧ ∀ d, (goR cs).2 = [d] → runsR cs ≠ [] ∧ alt (firstR cs) ((runsR cs).length - 1) = (d : Int) - 48) ?_ ?_ cs
  · intro _
    exact ⟨rfl, fun d h => nomatch h⟩
  · intro cs c ih hb
    obtain ⟨hb1, hb2⟩ := bits_app.mp hb
    have hc : c = 48 ∨ c = 49 := hb2 c List.mem_cons_self
    obtain ⟨ih1, ih2⟩ := ih hb1
    have hr : runsR (cs ++ [c]) = if [c] = (goR cs).2 then bump (runsR cs) else runsR cs ++ [1] := by
      unfold runsR
      rw [goR_snoc]
      rfl
    by_cases h0 : cs = []
    · subst h0
      have e1 : runsR [c] = [1] := by unfold runsR; rw [goR_cons]; rfl
      show ex (firstR [c]) (runsR [c]) = itm [c] ∧ _
      rw [e1]
      refine ⟨rfl, fun d hd => ?_⟩
      have hd' : (goR ([] ++ [c])).2 = [d] := hd
      rw [go_snd_last] at hd'
      obtain rfl := List.cons.inj hd' |>.1
      show runsR [c] ≠ [] ∧ alt (firstR [c]) ((runsR [c]).length - 1) = _
      rw [e1]
      exact ⟨List.cons_ne_nil _ _, rfl⟩
    · obtain ⟨bs, d, rfl⟩ : ∃ bs d, cs = bs ++ [d] := ⟨cs.dropLast, cs.getLast h0, (List.dropLast_concat_getLast h0).symm⟩
      have hd : d = 48 ∨ d = 49 := hb1 d (List.mem_append_right _ List.mem_cons_self)
      obtain ⟨ne, ea⟩ := ih2 d go_snd_last
      obtain ⟨is, z, ez⟩ : ∃ is z, runsR (bs ++ [d]) = is ++ [z] := ⟨_, _, (List.dropLast_concat_getLast ne).symm⟩
      have hz : 1 ≤ z := by
        cases hbs : bs ++ [d] with
        | nil => exact absurd hbs (by simp)
        | cons x xs =>
          rw [hbs] at ez
          exact (runs_inv x xs).2.2.1 z (by rw [ez]; exact List.mem_append_right _ List.mem_cons_self)
      rw [firstR_app h0]
      rw [ez, List.length_append] at ea
      have ea' : alt (firstR (bs ++ [d])) is.length = (d : Int) - 48 := ea
      rw [ez, ex_app, ex_one, ea'] at ih1
      have itA : itm (bs ++ [d] ++ [c]) = itm (bs ++ [d]) ++ [(c : Int) - 48] := by
        unfold itm
        rw [List.map_append]
        rfl
      rw [itA, hr, go_snd_last, ez]
      by_cases e : c = d
      · subst e
        rw [if_pos rfl, bump_app]
        refine ⟨?_, fun d' hd' => ?_⟩
        · rw [ex_app, ex_one, ea', ← ih1, List.append_assoc]
          congr 1
          have : (z + 1).toNat = z.toNat + 1 := by omega
          rw [this, List.replicate_succ']
        · rw [go_snd_last] at hd'
          obtain rfl := (List.cons.inj hd').1
          refine ⟨by simp, ?_⟩
          rw [List.length_append]
          exact ea'
      · rw [if_neg (by simpa using e)]
        have ec : alt (firstR (bs ++ [d])) (is.length + 1) = (c : Int) - 48 := by
          rw [← alt_one, ea']
          omega
        refine ⟨?_, fun d' hd' => ?_⟩
        · rw [ex_app, ex_one, List.length_append]
          show _ ++ List.replicate 1 (alt (firstR (bs ++ [d])) (is.length + 1)) = _
          rw [ec, ex_app, ex_one, ea', ih1]
          rfl
        · rw [go_snd_last] at hd'
          obtain rfl := (List.cons.inj hd').1
          refine ⟨by simp, ?_⟩
          rw [List.length_append, List.length_append]
          exact ec
theorem runs_ex {cs : List Nat} (hb : Bits cs) : ex (firstR cs) (runsR cs) = itm cs := (runs_ex0 cs hb).1
theorem runs_nf {cs : List Nat} (hb : Bits cs) : Nf (firstR cs) (runsR cs) := by
  cases cs with
  | nil => exact ⟨.inl rfl, (fun n h => absurd (show n ∈ ([] : List Int) from h) List.not_mem_nil), fun _ => rfl⟩
  | cons c cs =>
    obtain ⟨a, b, d, e⟩ := runs_inv c cs
    refine ⟨?_, d, fun h => absurd h e⟩
    rcases hb c List.mem_cons_self with rfl | rfl
    · exact .inl rfl
    · exact .inr rfl
theorem sgn_itm {cs : List Nat} : (itm cs).map sgn = cs := by
  unfold itm
  rw [List.map_map]
  conv => rhs; rw [← List.map_id cs]
  refine List.map_congr_left fun c _ => ?_
  show ((c : Int) - 48 + 48).toNat = c
  omega
theorem txr_runs {cs : List Nat} (hb : Bits cs) : txr (firstR cs) (runsR cs) = cs := by
  unfold txr
  rw [runs_ex hb, sgn_itm]
theorem txr_bits {c : Int} {ns : List Int} (x : Nf c ns) : Bits (txr c ns) := fun b hb => by
  unfold txr at hb
  obtain ⟨i, hi, rfl⟩ := List.mem_map.mp hb
  rcases ex_bits ns c x.hc i hi with rfl | rfl
  · exact .inl rfl
  · exact .inr rfl
theorem itm_txr {c : Int} {ns : List Int} (x : Nf c ns) : itm (txr c ns) = ex c ns := by
  unfold itm txr
  rw [List.map_map]
  conv => rhs; rw [← List.map_id (ex c ns)]
  refine List.map_congr_left fun i hi => ?_
  rcases ex_bits ns c x.hc i hi with rfl | rfl <;> rfl
theorem runs_txr {c : Int} {ns : List Int} (x : Nf c ns) : firstR (txr c ns) = c ∧ runsR (txr c ns) = ns :=
  ex_inj (runs_nf (txr_bits x)) x ((runs_ex (txr_bits x)).trans (itm_txr x))
theorem txr_len {c : Int} {ns : List Int} (x : Nf c ns) : ((txr c ns).length : Int) = ns.sum := by
  unfold txr
  rw [List.length_map]
  exact ex_len ns c x.hp
/-- two texts of signs with the same runs are the same -/
theorem runs_inj {a b : List Nat} (ha : Bits a) (hb : Bits b) (h1 : firstR a = firstR b) (h2 : runsR a = runsR b) : a = b := by
  rw [← txr_runs ha, ← txr_runs hb, h1, h2]
theorem itm_inj {a b : List Nat} (h : itm a = itm b) : a = b := by rw [← sgn_itm (cs := a), h, sgn_itm]
/-- the pieces of a row's text -/
def pcs : Int → List Int → List (List Nat)
  | _, [] => []
  | c, n :: ns => List.replicate n.toNat (sgn c) :: pcs (1 - c) ns
theorem pcs_flat : ∀ (ns : List Int) (c : Int), (pcs c ns).flatten = txr c ns
  | [], _ => rfl
  | n :: ns, c => by
    show List.replicate n.toNat (sgn c) ++ (pcs (1 - c) ns).flatten = _
    rw [pcs_flat ns]
    unfold txr
    show _ = (List.replicate n.toNat c ++ ex (1 - c) ns).map sgn
    rw [List.map_append, List.map_replicate]
theorem pcs_snoc : ∀ (a : List Int) (c n : Int), pcs c (a ++ [n]) = pcs c a ++ [List.replicate n.toNat (sgn (alt c a.length))]
  | [], c, n => rfl
  | x :: a, c, n => by
    show List.replicate x.toNat (sgn c) :: pcs (1 - c) (a ++ [n]) = _
    rw [pcs_snoc a, alt_succ]
    rfl
theorem new_of {p : Addr} {o : HO} {H1 H2 : Hp} (np : H1 p = none) (e : upd H1 p o = H2) : Same H1 H2 ∧ H2 p = some o := by
  subst e
  exact ⟨same_upd np, upd_same⟩
/-- a list's append, seen from the heap before the list was made -/
theorem app_of {l : Addr} {o : HO} {H0 H1 H2 : Hp} (nl : H0 l = none) (s : Same H0 H1) (e : upd H1 l o = H2) : Same H0 H2 ∧ H2 l = some o := by
  subst e
  refine ⟨fun b u eb => ?_, upd_same⟩
  rw [upd_ne (ne_of_none eb nl)]
  exact s _ _ eb
theorem none_of {p : Addr} {H H' : Hp} (s : Same H H') (n : H' p = none) : H p = none := by
  cases e : H p with
  | none => rfl
  | some o => rw [s _ _ e] at n; cases n
theorem ne_new {p q : Addr} {o : HO} {H : Hp} (h : H q = some o) (n : H p = none) : p ≠ q := fun z => by rw [z, h] at n; cases n
end Vc

namespace Vc
open PySem PySem.Spec PyProof.Rows L2

/-! ### the head's look, with the defs' tables of code objects -/
def tabsV (g : Addr → Option Obj) (tf : List He.Defn) (K : PySem.W.Frag) : Bool := tf.all fun p => PySem.W.codeHdIn K (He.cT K p).1 (He.cT K p).2 && (match g (He.cT K p).2 with
  | some o => He.emptyTab o
  | none => false)
def obsWG (n : Nat) (fa : List Fact) (fn : List DV) (tf : List He.Defn) (g : Addr → Option Obj) : AlV × Bool := (obsV fa fn (He.frT g (asX g n)), tabsV g tf (He.frT g (asX g n)))
structure SaysT (fa : List Fact) (fn : List DV) (tf : List He.Defn) (h : Heap) (K : PySem.W.Frag) : Prop where
  v : SaysV fa fn K
  hd : ∀ p ∈ tf, PySem.W.codeHdIn K (He.cT K p).1 (He.cT K p).2 = true
  out : ∀ p ∈ tf, K.lookup (He.cT K p).2 = none
  empty : ∀ p ∈ tf, h.get? (He.cT K p).2 = some { cls := .none, data := .fields #[] }
theorem saysT_of {n : Nat} {fa : List Fact} {fn : List DV} {tf : List He.Defn} {h : Heap} (e : obsWG n fa fn tf h.get? = (valV fn, true)) : SaysT fa fn tf h (He.frT h.get? (asX h.get? n)) := by
  have e1 := congrArg (fun z : AlV × Bool => z.1) e
  have e2 : tabsV h.get? tf (He.frT h.get? (asX h.get? n)) = true := congrArg (fun z : AlV × Bool => z.2) e
  have at_ : ∀ p ∈ tf, PySem.W.codeHdIn (He.frT h.get? (asX h.get? n)) (He.cT (He.frT h.get? (asX h.get? n)) p).1 (He.cT (He.frT h.get? (asX h.get? n)) p).2 = true ∧ ∃ o, h.get? (He.cT (He.frT h.get? (asX h.get? n)) p).2 = some o ∧ He.emptyTab o = true := by
    intro p hp
    obtain ⟨a, b⟩ := He.ba (List.all_eq_true.mp e2 p hp)
    refine ⟨a, ?_⟩
    split at b
    · rename_i o q
      exact ⟨o, q, b⟩
    · cases b
  refine ⟨e1, fun p hp => (at_ p hp).1, fun p hp => ?_, fun p hp => ?_⟩
  · obtain ⟨_, o, q, z⟩ := at_ p hp
    exact He.frT_none q z
  · obtain ⟨_, o, q, z⟩ := at_ p hp
    rw [q, He.emptyTab_eq z]
def hookW (n : Nat) (fa : List Fact) (fn : List DV) (tf : List He.Defn) : PySem.W.Hook where
  α := AlV × Bool
  obs := fun s => obsWG n fa fn tf s.heap.get?
  val := fun _ => (valV fn, true)
  says := fun _ h => ∃ K : PySem.W.Frag, K.In h ∧ SaysT fa fn tf h K
  of := fun _ _ e => ⟨_, He.frT_in, saysT_of e⟩
  keeps := fun _ _ _ ⟨K, hK, c⟩ k => ⟨K, PySem.W.Frag.In.keeps hK k, ⟨c.v, c.hd, c.out, fun p hp => k _ _ (c.empty p hp)⟩⟩
theorem obsWG_eq {n : Nat} {fa : List Fact} {fn : List DV} {tf : List He.Defn} {g : Addr → Option Obj} {s : Shared} (h : ∀ a, g a = s.heap.get? a) : obsWG n fa fn tf g = (hookW n fa fn tf).obs s := by
  have e : g = s.heap.get? := funext h
  rw [e] <;> rfl

/-- two makers' tables are two -/
def fTne (x y : Str) : Fact := fun K => decide ((He.cT K (x, none)).2 ≠ (He.cT K (y, none)).2)
theorem tne_of {x y : Str} {K : PySem.W.Frag} (h : fTne x y K = true) : (He.cT K (x, none)).2 ≠ (He.cT K (y, none)).2 := of_decide_eq_true h
/-! ### makers of lambdas -/
/-- the base holds the maker's code object and table -/
class TabF (K : PySem.W.Frag) (mg : Str → Option Value) (base : Heap) (p : He.Defn) : Prop where
  tb : LamX.TabB base mg (He.cT K p).1 (He.cT K p).2
/-- a maker's own context: which def it is -/
structure IsDef (K : PySem.W.Frag) (x : Str) (X : Cx) : Prop where
  co : X.env.code = .ref (He.cT K (x, none)).1
  qu : X.env.qual = x ++ ".<locals>."
theorem IsDef.tr {K : PySem.W.Frag} {x : Str} {X : Cx} (d : IsDef K x X) (pn : List (Addr × Obj)) (xe : Value → Shared → Prop) : IsDef K x (X.tr pn xe) := ⟨d.co, d.qu⟩
/-- the maker's table, seen in H -/
abbrev TabH (K : PySem.W.Frag) (H : Hp) (x : Str) : Prop := LamX.TabS H (He.cT K (x, none)).2 (x ++ ".<locals>." ++ "<lambda>")
section
variable {P : Program} {w : World} {K : PySem.W.Frag} {mg : Str → Option Value} {base : Heap} {k j : Nat} {X : Cx} {W : WX}
theorem isDef_of {x : Str} {st : Stmt} {N : List Str} {A : Around} {outer : List Env} {s : Shared} {H : Hp} {E : XK} {oc : Value} {od : Option Addr} {kV doc pm cdv ct : Value} {an : Option Addr} {osl : Array (Option Value)}
    (lk : K.lookup (He.ga K x) = some ⟨oc, od, .func (PySem.W.fnOf x x (defArgs st) (defBody st) (defScope st) .none kV doc pm an cdv ct), osl⟩) (hcd : PySem.W.codeIn K cdv x = true) :
    IsDef K x (cxOf (CXV P w) P w K mg base N x (defScope st) (He.ga K x) cdv A outer s H E) := by
  obtain ⟨c, rfl⟩ := He.codeIn_ref hcd
  exact ⟨congrArg Value.ref (He.codeOf_eq (p := (x, none)) lk rfl).symm, rfl⟩
/-- the rule for a def that makes lambdas -/
theorem fn_okM {x : Str} {st : Stmt} {fd : FuncData} {N ps : List Str} {sp : Sp} (F : Fun K x x st (He.ga K x) fd) (S : FnScope N ps (defScope st))
    (bn : ∀ (kV doc pm : Value) (an : Option Addr) (cdv ct : Value) (us : List Value), us.length = ps.length → bindArgs (PySem.W.fnOf x x (defArgs st) (defBody st) (defScope st) .none kV doc pm an cdv ct) ⟨us, []⟩ = pure (ps.zip us))
    (len : ∀ vs H Q E, sp vs H Q E → vs.length = ps.length) (rd : Cx → WX → TS) (n : Nat)
    (hrd : ∀ X W, rdSs (rdS N (defScope st) n X W true) (defBody st) = rd X W)
    (hb : ∀ (X : Cx) (vs : List V) (H : Hp) (Q : VK) (E : XK), Ctx P w K mg base k X (fun cls d _ H => E cls d H) → IsDef K x X → sp vs H Q E → rd X (fun cls d _ H => E cls d H) { nx := fun _ H' => Q .non H', rt := Q } (start N vs) H) :
    FnS P w K mg base (He.ga K x) (k + 1) ps sp := by
  obtain ⟨oc, od, kV, doc, pm, an, cdv, ct, osl, rfl, lk, hcd⟩ := F.ex
  refine ⟨_, fn_of lk hcd S len (fun A outer s H vs Q E hr h => ?_), F.binds bn⟩
  refine ⟨_, rdSs_ok (rdS_ok (N := N) (sc := defScope st) n (cm := true) (W := fun cls d _ H => E cls d H) ⟨⟨rfl, rfl, S.nd⟩, ⟨rfl, S.nd, fun _ z => z, fun _ _ => rfl, fun _ z => z⟩, rfl, rfl, (fun _ => passes_of rfl), fun _ => L2H.passesAt_of rfl⟩ (fun _ => rfl) (fun _ => takesV_of rfl rfl rfl rfl) (takesV_of (E := _) rfl rfl rfl rfl).2), ?_⟩
  rw [hrd]
  exact hb _ vs H Q E ⟨rfl, rfl, rfl, rfl, rfl, hr, takesV_of rfl rfl rfl rfl, rfl⟩ (isDef_of lk hcd) h
theorem Ctx.lam {E : XK} {Y : Cx} (C : Ctx P w K mg base k X W) (lc : LamCtx X j E Y) : Ctx P w K mg base j Y (fun cls d _ H => E cls d H) := by
  obtain ⟨A, outer, s, H, scope, f, c', rfl, hr⟩ := lc
  exact ⟨C.p, C.w, C.K, C.m, C.b, hr, takesV_of rfl rfl rfl rfl, rfl⟩
theorem Ctx.imp {W' : WX} (C : Ctx P w K mg base k X W) (h : ∀ cls d σ H, W' cls d σ H → W cls d σ H) : Ctx P w K mg base k X W' := ⟨C.p, C.w, C.K, C.m, C.b, C.r, C.t.imp h, C.c⟩
/-- a call of f does what the lambda's body says -/
def ActsC (P : Program) (w : World) (K : PySem.W.Frag) (mg : Str → Option Value) (base : Heap) (k : Nat) (σ : L2.St) (tb : Cx → TE) (c' f : Addr) (q : Str) (Z : Cx) : Prop :=
  ∀ (pn : List (Addr × Obj)) (xe : Value → Shared → Prop) (W2 : WX), TakesV (Z.tr pn xe) W2 → ∀ (σZ : L2.St) (HZ : Hp) (Q : VK), HZ c' = some (LamX.CodeO c' q) →
    (∀ Y, Ctx P w K mg base k Y (fun cls d _ H' => W2 cls d σZ H') → tb Y σ HZ Q) → CV0 (Z.tr pn xe) (.ref f) σZ HZ Q
/-- x(lambda: ..), x a def with one parameter -/
theorem lam_fn {x y a : Str} {st : Stmt} {g : Addr} {fd : FuncData} {N : List Str} {σ : L2.St} {H : Hp} {Q : VK} {tb : Cx → TE} (C : Ctx P w K mg base k X W) [tf : TabF K mg base (y, none)] (d : IsDef K y X) (cal : Cal X x (.ref g)) (F : Fun K x x st g fd) (S : FnScope N [a] (defScope st))
    (bn : ∀ (kV doc pm : Value) (an : Option Addr) (cdv ct : Value) (us : List Value), us.length = [a].length → bindArgs (PySem.W.fnOf x x (defArgs st) (defBody st) (defScope st) .none kV doc pm an cdv ct) ⟨us, []⟩ = pure ([a].zip us))
    (rd : Cx → WX → TS) (n : Nat) (hrd : ∀ X W, rdSs (rdS N (defScope st) n X W true) (defBody st) = rd X W) (hj : j + 2 ≤ k) (hT : TabH K H y)
    (hb : ∀ (H1 : Hp) (f c' : Addr), LamX.ExtN H H1 → TabH K H1 y → H1 c' = some (LamX.CodeO c' (y ++ ".<locals>." ++ "<lambda>")) → ∀ Z, Ctx P w K mg base (j + 1) Z (fun cls d _ H => W cls d σ H) → ActsC P w K mg base j σ tb c' f (y ++ ".<locals>." ++ "<lambda>") Z →
      rd Z (fun cls d _ H => W cls d σ H) { nx := fun _ H' => Q .non H', rt := Q } (start N [.ref f]) H1) : tLamR X x tb σ H Q := by
  have C0 := C
  obtain ⟨rfl, rfl, rfl, rfl, rfl, hr, tk, _⟩ := C
  refine ⟨g, (He.cT X.K (y, none)).1, (He.cT X.K (y, none)).2, [((He.cT X.K (y, none)).2, y ++ ".<locals>." ++ "<lambda>")], j, cal, ⟨tf.tb, d.co, ?_, ?_⟩, ?_, hr.mono hj, fun H1 f c' pins s' eN T1 hc I1 act => ?_⟩
  · rw [d.qu]; exact List.mem_cons_self
  · intro p hp _
    rw [List.mem_singleton.mp hp, d.qu]
  · intro p hp
    rw [List.mem_singleton.mp hp]
    exact hT
  rw [d.qu] at hc
  have hT1 : TabH X.K H1 y := T1 _ List.mem_cons_self
  obtain ⟨oc, od, kV, doc, pm, an, cdv, ct, osl, rfl, lk, hcd⟩ := F.ex
  have hr2 : Room (j + 1 + 1) X.A := hr.mono hj
  have rc : codeAny (model X.prog X.w) X.A (.call (.ref g) ⟨[.ref f], []⟩) (CR (CXV X.prog X.w) X.stack X.prog X.w H1 s' Q (WE W σ)) s' := by
    refine LamX.run_ofS (N := N) (ps := [a]) (us := [.ref f]) (vs := [.ref f]) lk hcd S hr2 I1.env0 (.of_eq (bn kV doc pm an cdv ct [.ref f] rfl)) (.cons rfl .nil) rfl fun hr' => ?_
    refine ⟨_, rdSs_ok (rdS_ok (N := N) (sc := defScope st) n (cm := true) (W := fun cls d _ H => W cls d σ H) ⟨⟨rfl, rfl, S.nd⟩, ⟨rfl, S.nd, fun _ z => z, fun _ _ => rfl, fun _ z => z⟩, rfl, rfl, (fun _ => passes_of rfl), fun _ => L2H.passesAt_of rfl⟩ (fun _ => rfl) (fun _ => takesV_of rfl rfl rfl rfl) (takesV_of (E := _) rfl rfl rfl rfl).2), ?_⟩
    rw [hrd]
    refine hb H1 f c' eN hT1 hc _ ⟨rfl, rfl, rfl, rfl, rfl, hr', takesV_of rfl rfl rfl rfl, rfl⟩ fun pn xe W2 tk2 σZ HZ Q2 hcZ ht => ?_
    exact act (CXV X.prog X.w) (WE W σ) N x (defScope st) cdv hr' pn xe W2 tk2 σZ HZ Q2 (by rw [d.qu]; exact hcZ) fun Y lc => ht Y (C0.lam lc)
  refine wpAny_call (codeAny_mono rc fun r s2 hq => ?_)
  cases r with
  | error e => exact passV tk σ pins H1 s' e s2 I1 hq
  | ok fl =>
    cases fl with
    | ret u => exact I1.after hq
    | next => exact False.elim hq
    | brk => exact False.elim hq
    | cont => exact False.elim hq
/-- the same where other makers' tables stay -/
theorem lam_fnZ {x y a : Str} {st : Stmt} {g : Addr} {fd : FuncData} {N : List Str} {σ : L2.St} {H : Hp} {Q : VK} {tb : Cx → TE} (C : Ctx P w K mg base k X W) [tf : TabF K mg base (y, none)] (d : IsDef K y X) (cal : Cal X x (.ref g)) (F : Fun K x x st g fd) (S : FnScope N [a] (defScope st))
    (bn : ∀ (kV doc pm : Value) (an : Option Addr) (cdv ct : Value) (us : List Value), us.length = [a].length → bindArgs (PySem.W.fnOf x x (defArgs st) (defBody st) (defScope st) .none kV doc pm an cdv ct) ⟨us, []⟩ = pure ([a].zip us))
    (rd : Cx → WX → TS) (n : Nat) (hrd : ∀ X W, rdSs (rdS N (defScope st) n X W true) (defBody st) = rd X W) (hj : j + 2 ≤ k) (hT : TabH K H y) (zs : List Str) (hz : ∀ z ∈ zs, (He.cT K (z, none)).2 ≠ (He.cT K (y, none)).2 ∧ TabH K H z)
    (hb : ∀ (H1 : Hp) (f c' : Addr), LamX.ExtN H H1 → TabH K H1 y → (∀ z ∈ zs, TabH K H1 z) → H1 c' = some (LamX.CodeO c' (y ++ ".<locals>." ++ "<lambda>")) → ∀ Z, Ctx P w K mg base (j + 1) Z (fun cls d _ H => W cls d σ H) → ActsC P w K mg base j σ tb c' f (y ++ ".<locals>." ++ "<lambda>") Z →
      rd Z (fun cls d _ H => W cls d σ H) { nx := fun _ H' => Q .non H', rt := Q } (start N [.ref f]) H1) : tLamR X x tb σ H Q := by
  have C0 := C
  obtain ⟨rfl, rfl, rfl, rfl, rfl, hr, tk, _⟩ := C
  refine ⟨g, (He.cT X.K (y, none)).1, (He.cT X.K (y, none)).2, ((He.cT X.K (y, none)).2, y ++ ".<locals>." ++ "<lambda>") :: zs.map (fun z => ((He.cT X.K (z, none)).2, z ++ ".<locals>." ++ "<lambda>")), j, cal, ⟨tf.tb, d.co, ?_, ?_⟩, ?_, hr.mono hj, fun H1 f c' pins s' eN T1 hc I1 act => ?_⟩
  · rw [d.qu]; exact List.mem_cons_self
  · intro p hp ep
    rcases List.mem_cons.mp hp with rfl | hp
    · rw [d.qu]
    · obtain ⟨z, hzm, rfl⟩ := List.mem_map.mp hp
      exact absurd ep (hz z hzm).1
  · intro p hp
    rcases List.mem_cons.mp hp with rfl | hp
    · exact hT
    · obtain ⟨z, hzm, rfl⟩ := List.mem_map.mp hp
      exact (hz z hzm).2
  rw [d.qu] at hc
  have hT1 : TabH X.K H1 y := T1 _ List.mem_cons_self
  have hZ1 : ∀ z ∈ zs, TabH X.K H1 z := fun z hzm => T1 ((He.cT X.K (z, none)).2, z ++ ".<locals>." ++ "<lambda>") (List.mem_cons_of_mem _ (List.mem_map.mpr ⟨z, hzm, rfl⟩))
  obtain ⟨oc, od, kV, doc, pm, an, cdv, ct, osl, rfl, lk, hcd⟩ := F.ex
  have hr2 : Room (j + 1 + 1) X.A := hr.mono hj
  have rc : codeAny (model X.prog X.w) X.A (.call (.ref g) ⟨[.ref f], []⟩) (CR (CXV X.prog X.w) X.stack X.prog X.w H1 s' Q (WE W σ)) s' := by
    refine LamX.run_ofS (N := N) (ps := [a]) (us := [.ref f]) (vs := [.ref f]) lk hcd S hr2 I1.env0 (.of_eq (bn kV doc pm an cdv ct [.ref f] rfl)) (.cons rfl .nil) rfl fun hr' => ?_
    refine ⟨_, rdSs_ok (rdS_ok (N := N) (sc := defScope st) n (cm := true) (W := fun cls d _ H => W cls d σ H) ⟨⟨rfl, rfl, S.nd⟩, ⟨rfl, S.nd, fun _ z => z, fun _ _ => rfl, fun _ z => z⟩, rfl, rfl, (fun _ => passes_of rfl), fun _ => L2H.passesAt_of rfl⟩ (fun _ => rfl) (fun _ => takesV_of rfl rfl rfl rfl) (takesV_of (E := _) rfl rfl rfl rfl).2), ?_⟩
    rw [hrd]
    refine hb H1 f c' eN hT1 hZ1 hc _ ⟨rfl, rfl, rfl, rfl, rfl, hr', takesV_of rfl rfl rfl rfl, rfl⟩ fun pn xe W2 tk2 σZ HZ Q2 hcZ ht => ?_
    exact act (CXV X.prog X.w) (WE W σ) N x (defScope st) cdv hr' pn xe W2 tk2 σZ HZ Q2 (by rw [d.qu]; exact hcZ) fun Y lc => ht Y (C0.lam lc)
  refine wpAny_call (codeAny_mono rc fun r s2 hq => ?_)
  cases r with
  | error e => exact passV tk σ pins H1 s' e s2 I1 hq
  | ok fl =>
    cases fl with
    | ret u => exact I1.after hq
    | next => exact False.elim hq
    | brk => exact False.elim hq
    | cont => exact False.elim hq
/-! ### what stays when a table grows -/
abbrev Ext (H H' : Hp) : Prop := LamX.ExtN H H'
theorem Same.ext {H H' : Hp} (s : Same H H') : Ext H H' := fun b o e _ => s b o e
theorem Ext.lst {H H' : Hp} (s : Ext H H') {p : Addr} {xs : List V} (h : H p = some (.lst xs)) : H' p = some (.lst xs) := s _ _ h fun _ z => by cases z
theorem Ext.tup {H H' : Hp} (s : Ext H H') {p : Addr} {xs : List V} (h : H p = some (.tup xs)) : H' p = some (.tup xs) := s _ _ h fun _ z => by cases z
theorem Ext.ins {H H' : Hp} (s : Ext H H') {p C dx : Addr} {fs : List (Str × V)} (h : H p = some (.ins C dx fs)) : H' p = some (.ins C dx fs) := s _ _ h fun _ z => by cases z
theorem Ext.dK {H H' : Hp} (s : Ext H H') {p : Addr} {kvs : List (Key × V)} (h : H p = some (.dK kvs)) : H' p = some (.dK kvs) := s _ _ h fun _ z => by cases z
theorem Ext.sqL {H H' : Hp} (s : Ext H H') {p : Addr} {xs : List V} (h : SqL K H p xs) : SqL K H' p xs := by
  rcases h with (h | ⟨o, h⟩) | h
  · exact .inl (.inl (s.lst h))
  · exact .inl (.inr ⟨o, s _ _ h fun _ z => by cases z⟩)
  · exact .inr h
theorem Ext.ty {H H' : Hp} {x : V} {t : Value} (s : Ext H H') (h : TyX K H x t) : TyX K H' x t := by
  have k : ∀ {b o}, H b = some o → (∀ ps, o ≠ .tbl ps) → H' b = some o := fun e n => s _ _ e n
  cases h with
  | base h =>
    cases h with
    | non => exact .base .non
    | bl x => exact .base (.bl x)
    | int i => exact .base (.int i)
    | str x => exact .base (.str x)
    | flt x => exact .base (.flt x)
    | lst e => exact .base (.lst (k e fun _ z => by cases z))
    | frz e => exact .base (.frz (k e fun _ z => by cases z))
    | tup e => exact .base (.tup (k e fun _ z => by cases z))
    | dK e => exact .base (.dK (k e fun _ z => by cases z))
    | dT e => exact .base (.dT (k e fun _ z => by cases z))
    | ins e c a n t m => exact .base (.ins (k e fun _ z => by cases z) c a n t m)
  | byt b => exact .byt b
  | set e => exact .set (k e fun _ z => by cases z)
  | kList e c => exact .kList e c
  | kTuple e c => exact .kTuple e c
  | kDict e c => exact .kDict e c
  | fTuple e => exact .fTuple (k e fun _ z => by cases z)
  | fDict e => exact .fDict (k e fun _ z => by cases z)
theorem TabS.same {H H' : Hp} {p : Addr} {q : Str} (h : LamX.TabS H p q) (s : Same H H') : LamX.TabS H' p q := h.ext s
/-! ### the law's own def -/
def FnLT (P : Program) (w : World) (K : PySem.W.Frag) (mg : Str → Option Value) (tf : List He.Defn) (f : Addr) (k : Nat) (x : Str) (sp : Sp) : Prop :=
  ∃ fd, (∀ (s : Shared) (u : Value), BindsTo s fd ⟨[u], []⟩ [(x, u)]) ∧ ∀ base : Heap, (∀ p ∈ tf, TabF K mg base p) → FnOk P w K mg base (CXV P w) k f fd [x] sp
theorem fn_okLT {x : Str} {st : Stmt} {fd : FuncData} {N : List Str} {p : Str} {sp : Sp} {tf : List He.Defn} (F : Fun K x x st (He.ga K x) fd) (S : FnScope N [p] (defScope st))
    (bn : ∀ (kV doc pm : Value) (an : Option Addr) (cdv ct : Value) (us : List Value), us.length = [p].length → bindArgs (PySem.W.fnOf x x (defArgs st) (defBody st) (defScope st) .none kV doc pm an cdv ct) ⟨us, []⟩ = pure ([p].zip us))
    (len : ∀ vs H Q E, sp vs H Q E → vs.length = [p].length) (rd : Cx → WX → TS) (n : Nat)
    (hrd : ∀ X W, rdSs (rdS N (defScope st) n X W true) (defBody st) = rd X W)
    (hb : ∀ (base : Heap), (∀ p ∈ tf, TabF K mg base p) → ∀ (X : Cx) (vs : List V) (H : Hp) (Q : VK) (E : XK), Ctx P w K mg base k X (fun cls d _ H => E cls d H) → IsDef K x X → sp vs H Q E → rd X (fun cls d _ H => E cls d H) { nx := fun _ H' => Q .non H', rt := Q } (start N vs) H) :
    FnLT P w K mg tf (He.ga K x) (k + 1) p sp := by
  obtain ⟨oc, od, kV, doc, pm, an, cdv, ct, osl, rfl, lk, hcd⟩ := F.ex
  refine ⟨_, fun s u => .of_eq (bn kV doc pm an cdv ct [u] rfl), fun base hT => fn_of lk hcd S len (fun A outer s H vs Q E hr h => ?_)⟩
  refine ⟨_, rdSs_ok (rdS_ok (N := N) (sc := defScope st) n (cm := true) (W := fun cls d _ H => E cls d H) ⟨⟨rfl, rfl, S.nd⟩, ⟨rfl, S.nd, fun _ z => z, fun _ _ => rfl, fun _ z => z⟩, rfl, rfl, (fun _ => passes_of rfl), fun _ => L2H.passesAt_of rfl⟩ (fun _ => rfl) (fun _ => takesV_of rfl rfl rfl rfl) (takesV_of (E := _) rfl rfl rfl rfl).2), ?_⟩
  rw [hrd]
  exact hb base hT _ vs H Q E ⟨rfl, rfl, rfl, rfl, rfl, hr, takesV_of rfl rfl rfl rfl, rfl⟩ (isDef_of lk hcd) h
end
theorem walk_w {l : PySem.W.OpenLaw} {n k : Nat} {q : Program} {loose : List Str} {XP : (Str → Option Value) → Heap → Prop} {fa : List Fact} {fn : List DV} {tf : List He.Defn} {d : DefRec} {x : Str} {sp : PySem.W.Frag → Sp}
    (hn : l.most = some n) (hn2 : n ≤ sizeLine) (hdf : d.params.defaults = []) (hr : Room k callerA) {dn : Str} (ed : d.name = dn) (hg0 : ∀ K : PySem.W.Frag, SaysV fa fn K → fGlo dn K = true)
    (F : ∀ (w : World) (K : PySem.W.Frag) (mg : Str → Option Value), Txt fa fn K mg → FnLT l.prog w K mg tf (He.ga K dn) k x (sp K))
    (hsp : ∀ (K : PySem.W.Frag) (H : Hp) (a : Addr) (ns : List Int), ns.length ≤ n → (∀ p ∈ tf, H (He.cT K p).2 = some (.tbl #[])) → SqL K H a (ns.map V.int) → sp K [.ref a] H (fun v _ => v = .bl true) fun _ _ _ => False) :
    PySem.W.WalkO q loose XP (hookW 6 fa fn tf).says l.row.toRowW d [] (fun f vs => PySem.call f vs) := by
  refine Att.attach_callB hn hdf fun w s₀ s₁ mg mb f o pm cd doc a vs ns G Y ho hd hcd hmg hobj hints hlen hbits hg => ?_
  obtain ⟨K, KX, c⟩ := Y
  have T : Txt fa fn K mg := ⟨c.v, fun x v e => PySem.W.mg_of KX G.T.g e, fun x e => PySem.W.mg_none_of KX G.T.g e⟩
  obtain ⟨fd, hb, hF⟩ := F w K mg T
  rw [ed] at hmg
  have e := hmg.symm.trans (He.glo_ok KX G.T.g (hg0 K c.v))
  cases e
  refine LamX.law_callTs (cs := tf.map (He.cT K)) KX G.T.g G.T.b G.T.builtins G.T.nolimit hg (fun p hp => ?_) (fun p hp => ?_) (fun p hp => ?_) G.T.bmain hobj hints (Nat.le_trans hlen hn2) hr (fun base _ _ hT => hF base fun p hp => ⟨hT _ (List.mem_map_of_mem hp)⟩) hb
    (fun H hH hS => hsp K H a ns hlen (fun p hp => hH _ (List.mem_map_of_mem hp)) hS) fun H e s' z => CXV_no z
  · obtain ⟨q, hq, rfl⟩ := List.mem_map.mp hp
    exact c.empty q hq
  · obtain ⟨q, hq, rfl⟩ := List.mem_map.mp hp
    exact c.out q hq
  · obtain ⟨q, hq, rfl⟩ := List.mem_map.mp hp
    exact PySem.W.codeHd_of_K KX (c.hd q hq)
end Vc

namespace Vc
open PySem PySem.Spec PyProof.Rows L2
/-! ### l.count(x) for data; slices of texts -/
section
variable {X : Cx}
def rCntD (K : PySem.W.Frag) : V → List V → Hp → VK → Prop := fun x xs H Q => ∃ (a : Addr) (y : V) (d : PyData) (ds : List PyData), x = V.ref a ∧ xs = [y] ∧ Dp K H (V.ref a) (.list ds) ∧ Dp K H y d ∧
  SeqAt.shaped (.list ds) = true ∧ SeqAt.shaped d = true ∧ Q (.int (ds.countP fun z => PyData.eqv z d : Nat)) H
theorem mt_countD (hu : X.A.units + 65 < cLine) : MtR X "list.count" (rCntD X.K) := by
  intro pins s σ H x xs v us Q I rx rxs h
  obtain ⟨a, y, d, ds, rfl, rfl, hl, hy, sl, sd, q⟩ := h
  cases rx
  cases rxs with
  | cons ry rt =>
    rename_i uy ut
    cases rt
    obtain ⟨bs, r1⟩ := Dp.reads I d y uy hy ry
    have hxs : PyData.canLayAll0 ds = true := SeqAt.canLay_of_shaped sl
    have hroom : X.A.units + 1 + min (PyData.depthAll ds) d.depth < cLine := room_in_shaped sd hu
    cases hl with
    | lst hs ha =>
      obtain ⟨its, rv, ⟨⟨cls, dd, data, sls⟩, n, ho, hc, hdn, hdt⟩, hlen⟩ := I.list hs
      simp only at hc hdt
      subst hc hdt
      obtain ⟨as, h4⟩ := Dp.readsAll I ds _ its ha rv
      have hmap : its.map (SeqAt.readOf s.heap) = ds := SeqAt.readsAll_map ds its as hxs h4
      refine call_meets PySem.F.slot_list_count ⟨_, ho, rfl⟩ PySem.F.entry_list_count (PySem.F.args_list_count_2 _ _)
        (SeqAt.list_countAt a its.toArray n dd sls uy (fun u => PyData.eqv (SeqAt.readOf s.heap u) d)) ⟨ho, SeqAt.items_eqAt (vs := its.toArray) (show ReadsAll s.heap its.toArray.toList ds as from h4) r1 hxs (SeqAt.canLay_of_shaped sd) hroom, ?_⟩
      have ec : its.toArray.toList.countP (fun u => PyData.eqv (SeqAt.readOf s.heap u) d) = ds.countP fun z => PyData.eqv z d := by
        rw [← hmap, List.countP_map]
        rfl
      refine ⟨.int (ds.countP fun z => PyData.eqv z d : Nat), H, I.tok _, ⟨s.toks, ?_⟩, q⟩
      show Value.int ((its.toArray.toList.countP _ : Nat) : Int) s.toks = Value.int _ s.toks
      rw [ec]
end
section
variable {P : Program} {w : World} {K : PySem.W.Frag} {mg : Str → Option Value} {base : Heap} {k : Nat} {X : Cx} {W : WX} {σ : L2.St} {H : Hp} {Q : VK}
theorem cnt_D (C : Ctx P w K mg base k X W) {a : Addr} {y : V} {d : PyData} {ds : List PyData} (h1 : Dp K H (.ref a) (.list ds)) (h2 : Dp K H y d) (s1 : SeqAt.shaped (.list ds) = true) (s2 : SeqAt.shaped d = true) (q : Q (.int (ds.countP fun z => PyData.eqv z d : Nat)) H) : CV X (.builtin "list.count") [.ref a, y] σ H Q := by
  have hK := C.K
  subst hK
  exact CV.ofR (mt_countD (by have := C.r.un; omega)) ⟨a, y, d, ds, rfl, rfl, h1, h2, s1, s2, q⟩
theorem mth_count {p : Addr} {xs : List V} (C : Ctx P w K mg base k X W) (h : SqL K H p xs) : Mth X "count" (.ref p) H (.builtin "list.count") := by
  have hK := C.K
  subst hK
  exact .blt PySem.F.plainAttrs_list PySem.F.slot_list_count PySem.F.type_list_count (.inl ⟨rfl, xs, h⟩)
theorem slc_tx {a : List Nat} {lo hi : Option Int} (h : a.length ≤ sizeLine) (q : Q (.str (cutS (tx a) lo hi)) H) : Slc X (.str (tx a)) lo hi σ H Q :=
  fun pins s v vl vu sl I rx hs pl pu => sl_str pins s σ H (.str (tx a)) v vl vu lo hi sl Q I rx hs pl pu ⟨tx a, rfl, by rw [tx_len]; exact h, q⟩
end
theorem sIx_of {n d : Nat} {i : Int} (h : 0 ≤ i) : HT.sIx n d (some i) = min i.toNat n := by
  show (if i < 0 then (i + (n : Int)).toNat else min i.toNat n) = _
  rw [if_neg (by omega)]
theorem cut_to (a : List Nat) {j : Int} (h : 0 ≤ j) : cutS (tx a) none (some j) = tx (a.take j.toNat) := by
  show tx ((a.drop 0).take (HT.sIx (tx a).length (tx a).length (some j) - 0)) = _
  rw [sIx_of h, tx_len, List.drop_zero, Nat.sub_zero, ← List.take_take, List.take_length]
theorem cut_from (a : List Nat) {i : Int} (h : 0 ≤ i) : cutS (tx a) (some i) none = tx (a.drop i.toNat) := by
  show tx ((a.drop (HT.sIx (tx a).length 0 (some i))).take ((tx a).length - HT.sIx (tx a).length 0 (some i))) = _
  rw [sIx_of h, tx_len]
  congr 1
  rw [List.take_of_length_le (by rw [List.length_drop]; omega)]
  by_cases hi : i.toNat ≤ a.length
  · rw [Nat.min_eq_left hi]
  · rw [Nat.min_eq_right (by omega), List.drop_length, List.drop_eq_nil_of_le (by omega)]
theorem cut_mid (a : List Nat) {i j : Int} (h : 0 ≤ i) (hj : 0 ≤ j) : cutS (tx a) (some i) (some j) = tx ((a.take j.toNat).drop i.toNat) := by
  show tx ((a.drop (HT.sIx (tx a).length 0 (some i))).take (HT.sIx (tx a).length (tx a).length (some j) - HT.sIx (tx a).length 0 (some i))) = _
  rw [sIx_of h, sIx_of hj, tx_len]
  congr 1
  rw [List.drop_take]
  by_cases hi : i.toNat ≤ a.length
  · rw [Nat.min_eq_left hi]
    by_cases hj' : j.toNat ≤ a.length
    · rw [Nat.min_eq_left hj']
    · rw [Nat.min_eq_right (by omega), List.take_of_length_le (by rw [List.length_drop]; omega), List.take_of_length_le (by rw [List.length_drop]; omega)]
  · rw [Nat.min_eq_right (by omega : a.length ≤ i.toNat), List.drop_length, List.drop_eq_nil_of_le (by omega : a.length ≤ i.toNat), List.take_nil, List.take_nil]
/-! ### a part of a text turned -/
def turnT (cs : List Nat) (i j : Nat) : List Nat := cs.take i ++ (((cs.take j).drop i).reverse ++ cs.drop j)
theorem take_drop_eq (cs : List Nat) {i j : Nat} (h : i ≤ j) : cs = cs.take i ++ ((cs.take j).drop i ++ cs.drop j) := by
  have e1 : cs.take j = cs.take i ++ (cs.take j).drop i := by
    have := List.take_append_drop i (cs.take j)
    rw [List.take_take, show min i j = i from by omega] at this
    exact this.symm
  rw [← List.append_assoc, ← e1, List.take_append_drop]
theorem turnT_len {cs : List Nat} {i j : Nat} (h : i ≤ j) : (turnT cs i j).length = cs.length := by
  unfold turnT
  rw [List.length_append, List.length_append, List.length_reverse, ← List.length_append, ← List.length_append, ← take_drop_eq cs h]
theorem turnT_bits {cs : List Nat} {i j : Nat} (hb : Bits cs) : Bits (turnT cs i j) := by
  unfold turnT
  intro c hc
  rcases List.mem_append.mp hc with h | h
  · exact hb c (List.mem_of_mem_take h)
  · rcases List.mem_append.mp h with h | h
    · exact hb c (List.mem_of_mem_take (List.mem_of_mem_drop (List.mem_reverse.mp h)))
    · exact hb c (List.mem_of_mem_drop h)
theorem flip_turn {cs : List Nat} {i j : Int} (hb : Bits cs) (h0 : 0 ≤ i) (h1 : i ≤ j) (h2 : j ≤ cs.length) :
    flipR (firstR cs) (runsR cs) i j = (firstR (turnT cs i.toNat j.toNat), runsR (turnT cs i.toNat j.toNat)) := by
  have nf := runs_nf hb
  have hs : (runsR cs).sum = cs.length := by
    have := ex_len (runsR cs) (firstR cs) nf.hp
    rw [runs_ex hb] at this
    unfold itm at this
    rw [List.length_map] at this
    exact this.symm
  obtain ⟨nr, er, _⟩ := flip_ex nf h0 h1 (by rw [hs]; exact h2)
  have nb := turnT_bits (i := i.toNat) (j := j.toNat) hb
  have e : ex (flipR (firstR cs) (runsR cs) i j).1 (flipR (firstR cs) (runsR cs) i j).2 = ex (firstR (turnT cs i.toNat j.toNat)) (runsR (turnT cs i.toNat j.toNat)) := by
    rw [er, runs_ex hb, runs_ex nb]
    unfold itm turnT
    rw [List.map_append, List.map_append, List.map_reverse, List.map_drop, List.map_take, List.map_take, List.map_drop]
  obtain ⟨a, b⟩ := ex_inj nr (runs_nf nb) e
  exact Prod.ext a b
theorem runs_sum {cs : List Nat} (hb : Bits cs) : (runsR cs).sum = cs.length := by
  have := ex_len (runsR cs) (firstR cs) (runs_nf hb).hp
  rw [runs_ex hb] at this
  unfold itm at this
  rw [List.length_map] at this
  exact this.symm
end Vc

namespace Vc
open PySem PySem.Spec PyProof.Rows L2
/-! ### text.count(sign) -/
theorem occ_cnt (x : Str) (c limit : Nat) : ∀ (k i : Nat) (st : Array Nat × Nat), st.snd ≤ i → st.fst.size + k ≤ limit →
    (forIn (List.range' i k) st (StrLaws.occBody x ⟨#[c]⟩ x.length limit)).run.fst.size = st.fst.size + (List.range' i k).countP fun j => decide (x.cps.toList[j]? = some c)
  | 0, i, st, _, _ => rfl
  | k + 1, i, st, h1, h2 => by
    rw [List.range'_succ, List.forIn_cons, List.countP_cons]
    unfold StrLaws.occBody
    by_cases h : x.cps.toList[i]? = some c
    · have h' := (StrLaws.subAt_one x c i).mpr h
      rw [if_pos ⟨⟨⟨by omega, h1⟩, h'.1⟩, h'.2⟩, if_pos (decide_eq_true h)]
      refine (occ_cnt x c limit k (i + 1) (st.fst.push i, i + (⟨#[c]⟩ : Str).length) (Nat.le_refl _) (by rw [Array.size_push]; omega)).trans ?_
      rw [Array.size_push]
      omega
    · rw [if_neg (fun z => h ((StrLaws.subAt_one x c i).mp ⟨z.1.2, z.2⟩)), if_neg (by rw [decide_eq_false h]; exact Bool.false_ne_true)]
      exact occ_cnt x c limit k (i + 1) st (by omega) (by omega)
theorem cnt_range (c : Nat) : ∀ cs : List Nat, ((List.range' 0 (cs.length + 1)).countP fun j => decide (cs[j]? = some c)) = cs.count c
  | [] => by simp
  | a :: cs => by
    have ih := cnt_range c cs
    rw [← List.range_eq_range'] at ih ⊢
    rw [show (a :: cs).length + 1 = cs.length + 1 + 1 from rfl, List.range_succ_eq_map, List.countP_cons, List.countP_map, List.count_cons]
    have e : (List.range (cs.length + 1)).countP ((fun j => decide ((a :: cs)[j]? = some c)) ∘ Nat.succ) = cs.count c := ih
    rw [e]
    congr 1
    by_cases h : a = c
    · rw [if_pos (by rw [h]; simp), if_pos (by rw [h]; simp)]
    · rw [if_neg (by simp [h]), if_neg (by simp [h])]
theorem txt_count (cs : List Nat) (c : Nat) : Txt.count (tx cs) (tx [c]) = ((cs.count c : Nat) : Int) := by
  show (((Builtin.Str.occurrences (tx cs) ⟨#[c]⟩ 0 (tx cs).length ((tx cs).length + 1)).length : Nat) : Int) = _
  rw [StrLaws.occ_eq, Array.length_toList, Nat.sub_zero, occ_cnt (tx cs) c ((tx cs).length + 1) ((tx cs).length + 1) 0 (#[], 0) (Nat.le_refl _) (by simp), tx_len]
  show ((0 + ((List.range' 0 (cs.length + 1)).countP fun j => decide (cs[j]? = some c)) : Nat) : Int) = _
  rw [cnt_range, Nat.zero_add]
section
variable {P : Program} {w : World} {K : PySem.W.Frag} {mg : Str → Option Value} {base : Heap} {k : Nat} {X : Cx} {W : WX} {σ : L2.St} {H : Hp} {Q : VK}
theorem mth_scount {x : Str} (C : Ctx P w K mg base k X W) : Mth X "count" (.str x) H (.builtin "str.count") := .blt PySem.F.plainAttrs_str PySem.F.slot_str_count PySem.F.type_str_count (show "str" = "str" from rfl)
theorem cnt_tx {a : List Nat} {c : Nat} (q : Q (.int (a.count c : Nat)) H) : CV X (.builtin "str.count") [.str (tx a), .str (tx [c])] σ H Q := CV.ofR mt_count ⟨tx a, tx [c], rfl, rfl, by rw [txt_count]; exact q⟩
end
/-! ### each sign repeated -/
def repL (f : Nat) (L : List Int) : List Int := L.flatMap fun x => List.replicate f x
theorem repL_app (f : Nat) (a b : List Int) : repL f (a ++ b) = repL f a ++ repL f b := List.flatMap_append
theorem repL_rep (f : Nat) (c : Int) : ∀ k, repL f (List.replicate k c) = List.replicate (k * f) c
  | 0 => by simp [repL]
  | k + 1 => by
    rw [List.replicate_succ, show repL f (c :: List.replicate k c) = List.replicate f c ++ repL f (List.replicate k c) from rfl, repL_rep f c k, List.replicate_append_replicate, Nat.add_mul, Nat.one_mul, Nat.add_comm]
theorem repL_len (f : Nat) : ∀ L : List Int, (repL f L).length = L.length * f
  | [] => by simp [repL]
  | x :: L => by
    rw [show repL f (x :: L) = List.replicate f x ++ repL f L from rfl, List.length_append, repL_len f L, List.length_replicate, List.length_cons, Nat.add_mul, Nat.one_mul, Nat.add_comm]
theorem repL_take (f : Nat) : ∀ (L : List Int) (i : Nat), (repL f L).take (i * f) = repL f (L.take i)
  | [], i => by simp [repL]
  | x :: L, 0 => by simp [repL]
  | x :: L, i + 1 => by
    rw [show repL f (x :: L) = List.replicate f x ++ repL f L from rfl, List.take_succ_cons, show repL f (x :: L.take i) = List.replicate f x ++ repL f (L.take i) from rfl, List.take_append, List.length_replicate, ← repL_take f L i,
      List.take_of_length_le (by rw [List.length_replicate, Nat.add_mul]; omega), show (i + 1) * f - f = i * f from by rw [Nat.add_mul]; omega]
theorem repL_drop (f : Nat) : ∀ (L : List Int) (i : Nat), (repL f L).drop (i * f) = repL f (L.drop i)
  | [], i => by simp [repL]
  | x :: L, 0 => by simp [repL]
  | x :: L, i + 1 => by
    rw [show repL f (x :: L) = List.replicate f x ++ repL f L from rfl, List.drop_succ_cons, List.drop_append, List.length_replicate, ← repL_drop f L i,
      List.drop_of_length_le (by rw [List.length_replicate, Nat.add_mul]; omega), show (i + 1) * f - f = i * f from by rw [Nat.add_mul]; omega, List.nil_append]
theorem repL_rev (f : Nat) : ∀ L : List Int, repL f L.reverse = (repL f L).reverse
  | [] => rfl
  | x :: L => by
    rw [List.reverse_cons, repL_app, repL_rev f L, show repL f (x :: L) = List.replicate f x ++ repL f L from rfl, List.reverse_append, List.reverse_replicate]
    congr 1
    simp [repL]
theorem repL_count (f : Nat) (k : Int) : ∀ L : List Int, (repL f L).count k = f * L.count k
  | [] => by simp [repL]
  | x :: L => by
    rw [show repL f (x :: L) = List.replicate f x ++ repL f L from rfl, List.count_append, repL_count f k L, List.count_replicate, List.count_cons, Nat.mul_add, Nat.add_comm]
    congr 1
    by_cases h : x = k
    · rw [if_pos (by rw [h]; simp), if_pos (by rw [h]; simp), Nat.mul_one]
    · rw [if_neg (by simp [h]), if_neg (by simp [h]), Nat.mul_zero]
def scl (f : Int) (ns : List Int) : List Int := ns.map (· * f)
theorem scl_len (f : Int) (ns : List Int) : (scl f ns).length = ns.length := by unfold scl; rw [List.length_map]
theorem ex_scl {f : Int} (hf : 1 ≤ f) : ∀ (ns : List Int) (c : Int), (∀ n ∈ ns, 1 ≤ n) → ex c (scl f ns) = repL f.toNat (ex c ns)
  | [], c, _ => by simp [scl, ex, repL]
  | n :: ns, c, h => by
    have ih := ex_scl hf ns (1 - c) fun m hm => h m (List.mem_cons_of_mem _ hm)
    have hn := h n List.mem_cons_self
    show List.replicate (n * f).toNat c ++ ex (1 - c) (scl f ns) = repL f.toNat (List.replicate n.toNat c ++ ex (1 - c) ns)
    rw [ih, repL_app, repL_rep, Int.toNat_mul (by omega) (by omega)]
theorem nf_scl {f c : Int} {ns : List Int} (hf : 1 ≤ f) (x : Nf c ns) : Nf c (scl f ns) := ⟨x.hc, fun n hn => by
    obtain ⟨m, hm, rfl⟩ := List.mem_map.mp hn
    have := x.hp m hm
    have : 1 * 1 ≤ m * f := Int.mul_le_mul this hf (by omega) (by omega)
    omega, fun e => x.he (by cases ns <;> first | rfl | cases e)⟩
theorem sum_scl (f : Int) : ∀ ns : List Int, (scl f ns).sum = ns.sum * f
  | [] => by simp [scl]
  | n :: ns => by
    show n * f + (scl f ns).sum = (n + ns.sum) * f
    rw [sum_scl f ns, Int.add_mul]
theorem part_text {cs : List Nat} {s e : Int} (hb : Bits cs) (h0 : 0 ≤ s) : partR (firstR cs) (runsR cs) s e = (firstR ((cs.take e.toNat).drop s.toNat), runsR ((cs.take e.toNat).drop s.toNat)) := by
  obtain ⟨n1, e1⟩ := part_nf (s := s) (e := e) (runs_nf hb) h0
  have hb2 : Bits ((cs.take e.toNat).drop s.toNat) := fun c hc => hb c (List.mem_of_mem_take (List.mem_of_mem_drop hc))
  have h : ex (partR (firstR cs) (runsR cs) s e).1 (partR (firstR cs) (runsR cs) s e).2 = ex (firstR ((cs.take e.toNat).drop s.toNat)) (runsR ((cs.take e.toNat).drop s.toNat)) := by
    rw [e1, runs_ex hb, runs_ex hb2]
    unfold itm
    rw [List.map_drop, List.map_take]
  obtain ⟨a, b⟩ := ex_inj n1 (runs_nf hb2) h
  exact Prod.ext a b
theorem part_scl {c f s e : Int} {ns : List Int} (x : Nf c ns) (hf : 1 ≤ f) (h0 : 0 ≤ s) (h1 : 0 ≤ e) : partR c (scl f ns) (s * f) (e * f) = ((partR c ns s e).1, scl f (partR c ns s e).2) := by
  obtain ⟨n1, e1⟩ := part_nf (s := s) (e := e) x h0
  obtain ⟨n2, e2⟩ := part_nf (s := s * f) (e := e * f) (nf_scl hf x) (Int.mul_nonneg h0 (by omega))
  have h : ex (partR c (scl f ns) (s * f) (e * f)).1 (partR c (scl f ns) (s * f) (e * f)).2 = ex (partR c ns s e).1 (scl f (partR c ns s e).2) := by
    rw [e2, ex_scl hf _ _ n1.hp, e1, ex_scl hf _ _ x.hp, Int.toNat_mul h1 (by omega), Int.toNat_mul h0 (by omega), repL_take, repL_drop]
  obtain ⟨a, b⟩ := ex_inj n2 (nf_scl hf n1) h
  exact Prod.ext a b
theorem itm_count {cs : List Nat} {k : Int} (hk : k = 0 ∨ k = 1) : (itm cs).count k = cs.count (k + 48).toNat := by
  unfold itm
  induction cs with
  | nil => rfl
  | cons c cs ih =>
    rw [List.map_cons, List.count_cons, List.count_cons, ih]
    congr 1
    by_cases h : (c : Int) - 48 = k
    · rw [if_pos (by rw [h]; simp), if_pos (by rw [show c = (k + 48).toNat from by omega]; simp)]
    · rw [if_neg (by simp [h]), if_neg (by simp; omega)]
theorem cnt_text {cs : List Nat} {k : Int} (hb : Bits cs) (hk : k = 0 ∨ k = 1) : cntR (firstR cs) (runsR cs) k = ((cs.count (k + 48).toNat : Nat) : Int) := by
  rw [cnt_ex (runs_nf hb) hk, runs_ex hb, itm_count hk]
theorem cnt_scl {cs : List Nat} {k f : Int} (hb : Bits cs) (hk : k = 0 ∨ k = 1) (hf : 1 ≤ f) : cntR (firstR cs) (scl f (runsR cs)) k = f * ((cs.count (k + 48).toNat : Nat) : Int) := by
  rw [cnt_ex (nf_scl hf (runs_nf hb)) hk, ex_scl hf _ _ (runs_nf hb).hp, repL_count, runs_ex hb, itm_count hk, Int.natCast_mul, Int.toNat_of_nonneg (by omega)]
end Vc

namespace Vc
open PySem PySem.Spec PyProof.Rows L2
/-! ### -x, x * number, x[..] of instances -/
/-- the class has no own __rmul__, int's are found -/
def MulI (K : PySem.W.Frag) (Cc : Addr) : Prop := ∃ fo ro, PySem.W.findIn K (.ref Cc) "__rmul__" = some none ∧ PySem.W.findIn K (.type "int") "__mul__" = some fo ∧ PySem.W.findIn K (.type "int") "__rmul__" = some ro ∧ PySem.W.subIn K (.type "int") (.ref Cc) = some false
def fMulI (x : Str) : Fact := fun K => decide (PySem.W.findIn K (.ref (He.ga K x)) "__rmul__" = some none) && ((PySem.W.findIn K (.type "int") "__mul__").isSome && ((PySem.W.findIn K (.type "int") "__rmul__").isSome && decide (PySem.W.subIn K (.type "int") (.ref (He.ga K x)) = some false)))
theorem mulI_of {K : PySem.W.Frag} {x : Str} (h : fMulI x K = true) : MulI K (He.ga K x) := by
  unfold fMulI at h
  simp only [Bool.and_eq_true, decide_eq_true_eq] at h
  obtain ⟨h1, h2, h3, h4⟩ := h
  obtain ⟨fo, h2⟩ := Option.isSome_iff_exists.mp h2
  obtain ⟨ro, h3⟩ := Option.isSome_iff_exists.mp h3
  exact ⟨fo, ro, h1, h2, h3, h4⟩
def fFnIn (x m : Str) : Fact := fun K => PySem.W.fnIn K (He.ma K (He.ga K x) m)
theorem fnIn_of {K : PySem.W.Frag} {x m : Str} (h : fFnIn x m K = true) : PySem.W.fnIn K (He.ma K (He.ga K x) m) = true := h
section
variable {P : Program} {w : World} {K : PySem.W.Frag} {mg : Str → Option Value} {base : Heap} {k j : Nat} {X : Cx} {W : WX} {σ : L2.St} {H : Hp} {Q : VK} {a Cc dx f : Addr} {fs : List (Str × V)} {ps : List Str} {sp : Sp} {y : V}
theorem neg_own (C : Ctx P w K mg base k X W) (h : H a = some (.ins Cc dx fs)) (M : Meth K Cc "__neg__" f) (F : FnS P w K mg base f j ps sp) (hj : j ≤ k) (q : sp [.ref a] H Q (WE W σ)) : O1 X (unaryOp .USub) (.ref a) σ H Q := by
  obtain ⟨rfl, rfl, rfl, rfl, rfl, hr, tk, _⟩ := C
  intro pins s v I rx
  cases rx
  obtain ⟨mA, J, _⟩ := ins_get I.hok h
  obtain ⟨od, J, _⟩ := J.look
  obtain ⟨m, hF⟩ := I.fr
  exact PySem.W.ksp_neg hF I.ok.mod.kin J M.at_ M.fn (run_in F (hr.mono hj) I.ok.frames tk I (.cons (show RelV (.ref a) (.ref a) from rfl) .nil) q)
theorem mulI_own (C : Ctx P w K mg base k X W) (h : H a = some (.ins Cc dx fs)) (sf : PySem.W.selfFirst K Cc = true) (M : Meth K Cc "__mul__" f) (F : FnS P w K mg base f j ps sp) (hj : j ≤ k) (mi : MulI K Cc) {n : Int}
    (q : sp [.ref a, .int n] H Q (WE W σ)) : O2 X (binaryOp .Mult) (.ref a) (.int n) σ H Q := by
  obtain ⟨rfl, rfl, rfl, rfl, rfl, hr, tk, _⟩ := C
  intro pins s v u I rx ry
  cases rx
  obtain ⟨mA, J, _⟩ := ins_get I.hok h
  obtain ⟨od, J, _⟩ := J.look
  obtain ⟨m, hF⟩ := I.fr
  obtain ⟨fo, ro, h1, h2, h3, h4⟩ := mi
  obtain ⟨t, rfl⟩ := id ry
  refine PySem.W.ksp_binT (op := .Mult) (T := "int") (rc := none) (fo := fo) (ro := ro) hF I.ok.mod.kin J rfl sf M.at_ M.fn h1 (.inl rfl) h2 h3 h4 ?_
  exact thn (run_in F (hr.mono hj) I.ok.frames tk I (.cons (show RelV (.ref a) (.ref a) from rfl) (.cons ry .nil)) q) fun r s' ⟨z, H', I', rz, q'⟩ => SlX.cmpback rz ⟨z, H', I', rz, q'⟩
theorem ix_own (C : Ctx P w K mg base k X W) (h : H a = some (.ins Cc dx fs)) (M : Meth K Cc "__getitem__" f) (fi : PySem.W.fnIn K f = true) (F : FnS P w K mg base f j ps sp) (hj : j + 1 ≤ k)
    (q : sp [.ref a, y] H Q (WE W σ)) : Ix X (.ref a) y σ H Q := by
  obtain ⟨rfl, rfl, rfl, rfl, rfl, hr, tk, _⟩ := C
  intro value slice pins s v u hs I rx ry
  cases rx
  obtain ⟨mA, J, _⟩ := ins_get I.hok h
  obtain ⟨od, J, _⟩ := J.look
  obtain ⟨m, hF⟩ := I.fr
  have hr1 : Room (j + 1) X.A := hr.mono hj
  refine PySem.W.sub_K hF I.ok.mod.kin J M.at_ fi M.fn ?_ ?_
  · exact run_in F hr1.in1 (by exact I.ok.frames) tk I (.cons (show RelV (.ref a) (.ref a) from rfl) (.cons ry .nil)) q
  · cases slice <;> first
      | (cases hs; done)
      | with_unfolding_all rfl
end

/-! ### comprehensions that make lists -/
def NewLs (G : Nat → List V) (i : Nat) (D : Addr) (H : Hp) : Prop := ∃ ls : List Addr, ls.length = i ∧ H D = some (.lst (ls.map V.ref)) ∧ ∀ j l, ls[j]? = some l → l ≠ D ∧ H l = some (.lst (G j))
theorem NewLs.step {G : Nat → List V} {i : Nat} {D l : Addr} {H H4 : Hp} (h : NewLs G i D H) (nl : H l = none) (s : Same H H4) (hl : H4 l = some (.lst (G i))) (hz : i < sizeLine) :
    ∃ acc, H4 D = some (.lst acc) ∧ acc.length < sizeLine ∧ NewLs G (i + 1) D (upd H4 D (.lst (acc ++ [.ref l]))) := by
  obtain ⟨ls, h1, h2, h3⟩ := h
  have nD : l ≠ D := fun e => by rw [e, h2] at nl; cases nl
  refine ⟨_, s _ _ h2, by rw [List.length_map, h1]; exact hz, ls ++ [l], by rw [List.length_append, h1]; rfl, by rw [upd_same, List.map_append]; rfl, fun j l' e => ?_⟩
  by_cases hj : j < ls.length
  · rw [List.getElem?_append_left hj] at e
    obtain ⟨a, b⟩ := h3 j l' e
    exact ⟨a, by rw [upd_ne a]; exact s _ _ b⟩
  · rw [List.getElem?_append_right (by omega)] at e
    obtain ⟨e1, e2⟩ := List.getElem?_eq_some_iff.mp e
    have hj' : j = i := by simp at e1; omega
    subst hj'
    have : l' = l := by rw [← e2]; simp
    subst this
    exact ⟨nD, by rw [upd_ne nD]; exact hl⟩
section
variable {X : Cx} {σ : L2.St} {H : Hp} {Q : VK}
theorem yes_eq {te : TE} {vs : List Nat} {σ : L2.St} (R : V → Hp → Prop) (N : Hp → Prop) : (fun (σ2 : L2.St) (H2 : Hp) => wipe σ2 vs = wipe σ vs ∧ tYes σ2 H2 fun b H3 => if b = true then te σ2 H3 R else N H3) = fun σ2 H2 => wipe σ2 vs = wipe σ vs ∧ te σ2 H2 R := by
  funext σ2 H2
  show (wipe σ2 vs = wipe σ vs ∧ if true = true then te σ2 H2 R else N H2) = _
  rw [if_pos rfl]
theorem lc_newR {lo : Int} {n : Nat} {g : TG} {te : TE} {vs : List Nat} (hz : n ≤ sizeLine) (G : Nat → List V)
    (hs : ∀ (i : Nat) (H' : Hp) (R : V → Hp → Prop), i < n → Same H H' → (∀ l H4, H' l = none → Same H' H4 → H4 l = some (.lst (G i)) → R (.ref l) H4) → g (.int (lo + i)) (wipe σ vs) H' fun σ2 H2 => wipe σ2 vs = wipe σ vs ∧ te σ2 H2 R)
    (q : ∀ D H', H D = none → Same H H' → NewLs G n D H' → Q (.ref D) H') : LcT (Itr lo n) g tYes te vs σ H Q := by
  intro D hD
  refine lc_range (fun i H' => Same H H' ∧ NewLs G i D H') ⟨same_upd hD, [], rfl, upd_same, fun j l e => by cases e⟩ (fun i H' hi p => ?_) (fun H' p => q D H' hD p.1 p.2)
  rw [yes_eq]
  refine hs i H' _ hi p.1 fun l H4 nl s4 hl => ?_
  obtain ⟨acc, a1, a2, a3⟩ := p.2.step nl s4 hl (Nat.lt_of_lt_of_le hi hz)
  refine ⟨acc, a1, a2, fun b o eb => ?_, a3⟩
  rw [upd_ne (ne_of_none eb hD)]
  exact s4 _ _ (p.1 _ _ eb)
theorem lc_newT {a : List Nat} {g : TG} {te : TE} {vs : List Nat} (hz : a.length ≤ sizeLine) (G : Nat → List V)
    (hs : ∀ (i c : Nat) (H' : Hp) (R : V → Hp → Prop), a[i]? = some c → Same H H' → (∀ l H4, H' l = none → Same H' H4 → H4 l = some (.lst (G i)) → R (.ref l) H4) → g (.str (tx [c])) (wipe σ vs) H' fun σ2 H2 => wipe σ2 vs = wipe σ vs ∧ te σ2 H2 R)
    (q : ∀ D H', H D = none → Same H H' → NewLs G a.length D H' → Q (.ref D) H') : LcT (Its (tx a)) g tYes te vs σ H Q := by
  intro D hD
  have hsz : (tx a).cps.size = a.length := tx_len a
  refine ⟨fun i m H' => m = a.length - i ∧ i ≤ a.length ∧ Same H H' ∧ NewLs G i D H', ⟨a.length, by simp, Nat.zero_le _, same_upd hD, [], rfl, upd_same, fun j l e => by cases e⟩, ?_⟩
  rintro i m H' ⟨rfl, hi, s, hl⟩
  by_cases hlt : i < a.length
  · refine .inr ⟨by show i < (tx a).cps.size; omega, fun H2 => Same H H2 ∧ NewLs G (i + 1) D H2, fun H2 p' => ⟨a.length - (i + 1), by omega, rfl, hlt, p'⟩, fun x H2 y => ?_⟩
    obtain ⟨e, c, hc, ex⟩ := y
    subst e ex
    have ec := its_at hc
    rw [yes_eq]
    refine hs i c H2 _ ec s fun l H4 nl s4 hl' => ?_
    obtain ⟨acc, a1, a2, a3⟩ := hl.step nl s4 hl' (Nat.lt_of_lt_of_le hlt hz)
    refine ⟨acc, a1, a2, fun b o eb => ?_, a3⟩
    rw [upd_ne (ne_of_none eb hD)]
    exact s4 _ _ (s _ _ eb)
  · have e : i = a.length := by omega
    subst e
    exact .inl ⟨by show (tx a).cps.size ≤ a.length; omega, q D H' hD s hl⟩
end
/-- a list of lists of one int each, as data -/
theorem NewLs.dp {K : PySem.W.Frag} {D : Addr} {H : Hp} {f : Nat → Int} {n : Nat} (h : NewLs (fun i => [.int (f i)]) n D H) : Dp K H (.ref D) (.list ((List.range n).map fun i => .list [.int (f i)])) := by
  obtain ⟨ls, h1, h2, h3⟩ := h
  refine .lst (.of h2) ?_
  have go : ∀ (ls : List Addr) (k : Nat), (∀ j l, ls[j]? = some l → H l = some (.lst [.int (f (k + j))])) → DpAll K H (ls.map V.ref) ((List.range' k ls.length).map fun i => PyData.list [.int (f i)]) := by
    intro ls
    induction ls with
    | nil => intro k _; exact .nil
    | cons l ls ih =>
      intro k hh
      rw [List.length_cons, List.range'_succ]
      have h0 := hh 0 l rfl
      refine .cons (.lst (.of h0) (.cons (.int _) .nil)) (ih (k + 1) fun j l' e => ?_)
      have := hh (j + 1) l' e
      rw [show k + 1 + j = k + (j + 1) from by omega]
      exact this
  have := go ls 0 fun j l e => by rw [Nat.zero_add]; exact (h3 j l e).2
  rw [h1] at this
  rw [List.range_eq_range']
  exact this
theorem sha_ones (f : Nat → Int) (l : List Nat) : SeqAt.shaped (.list (l.map fun i => .list [.int (f i)])) = true := by
  have h1 : ∀ l : List Nat, PyData.canLayAll0 (l.map fun i => PyData.list [.int (f i)]) = true := fun l => by
    induction l with
    | nil => rfl
    | cons a l ih => simp [PyData.canLayAll0, PyData.canLay0, ih]
  have h2 : ∀ l : List Nat, PyData.depthAll (l.map fun i => PyData.list [.int (f i)]) ≤ 1 := fun l => by
    induction l with
    | nil => simp [PyData.depthAll]
    | cons a l ih =>
      simp only [List.map_cons, PyData.depthAll, PyData.depth]
      omega
  show (PyData.canLayAll0 _ && decide (PyData.depthAll _ + 1 ≤ 64)) = true
  rw [h1, decide_eq_true (by have := h2 l; omega)]
  rfl
end Vc

/-! != of two equal lists whose items are compared by an own __eq__ (after HandS.OwnEq's ==) -/
namespace VcGQ
open PySem PySem.SeqAt GQ
open AutoSeq1 (wpAny_loadPart')
open MeetsSeq MeetsSeq2 MeetsSeq3 SeqRoads2
section
variable {prog : Program} {w : World} {A : Around} {R : Result → Shared → Prop}
theorem ne_loopG (l b : Addr) (N : Nat) (I : Nat → Shared → Prop) (hl : ListI prog w A (fun e s' => R (.error e) s') l b N I)
    (fin : ∀ s, I N s → R (.ok (.ret (.bool false))) s) (k : Nat) :
    ∀ i : Nat, N - i = k → i ≤ N → ∀ s, I i s →
      wpAny (model prog w) A.in1 (Builtin.«list.__eq__.loop» ⟨[.ref l, .ref b, rawInt i, rawInt 3], []⟩) (FinOf prog w A R) (fun e s' => R (.error e) s') s := by
  induction k with
  | zero =>
    intro i hk hi s h
    obtain ⟨items, items2, n, n2, hl1, hb1, hs1, hs2, _⟩ := hl _ _ h
    have hi' : i = N := by omega
    have hR : R (.ok (.ret (.bool false))) s := fin s (hi' ▸ h)
    obtain ⟨hp, g, d, tk, os⟩ := s
    wp_walk using wpAny_loadPart' hl1, wpAny_loadPart' hb1
    have hi1 : items[((i : Nat) : Int).toNat]? = none := by simp; omega
    have hi2 : items2[((i : Nat) : Int).toNat]? = none := by simp; omega
    rw [hi1, hi2]
    wp_walk using wpAny_loadPart' hl1, wpAny_loadPart' hb1
    show R (.ok (.ret (.bool (items.size != items2.size)))) _
    rw [hs1, hs2]
    simpa using hR
  | succ k ih =>
    intro i hk hi s h
    obtain ⟨items, items2, n, n2, hl1, hb1, hs1, hs2, turn⟩ := hl _ _ h
    have hlt : i < items.size := by omega
    have hlt2 : i < items2.size := by omega
    have ht := turn hlt hlt2
    obtain ⟨hp, g, d, tk, os⟩ := s
    wp_walk using wpAny_loadPart' hl1, wpAny_loadPart' hb1
    have hi1 : items[((i : Nat) : Int).toNat]? = some items[i] := by simp [hlt]
    have hi2 : items2[((i : Nat) : Int).toNat]? = some items2[i] := by simp [hlt2]
    have hc : ((i : Int) + 1) = ((i + 1 : Nat) : Int) := by omega
    rw [hi1, hi2]
    refine wpAny_bind (wpAny_mono ht (fun r s2 h2 => ?_) fun _ _ x => x)
    obtain ⟨hr, h2⟩ := h2
    subst hr
    have hrec := ih (i + 1) (by omega) (by omega) s2 h2
    obtain ⟨hp2, g2, d2, tk2, os2⟩ := s2
    wp_walk
    rw [hc]
    exact ⟨plainId_quiet plain_eq_loop _, codeAny_builtin entry_eq_loop (by
      rw [Around.under_plainId plain_eq_loop _]
      exact hrec)⟩

theorem list_neG (l b : Addr) (N : Nat) (I : Nat → Shared → Prop) (hl : ListI prog w A (fun e s' => R (.error e) s') l b N I)
    (fin : ∀ s, I N s → R (.ok (.ret (.bool false))) s) {s : Shared} (h : I 0 s) :
    wpAny (model prog w) A.in1 (Builtin.«list.__ne__» ⟨[.ref l, .ref b], []⟩) (FinOf prog w A R) (fun e s' => R (.error e) s') s := by
  obtain ⟨items, items2, n, n2, hl1, hb1, hs1, hs2, _⟩ := hl _ _ h
  have hrec := ne_loopG (A := A) (R := R) l b N I hl fin _ 0 rfl (Nat.zero_le _) s h
  obtain ⟨hp, g, d, tk, os⟩ := s
  have f3 := AutoSeq1.sub_list_list
  have hne : ¬ (items.size != items2.size) = true := by simp [hs1, hs2]
  wp_walk using wpAny_loadPart' hl1, wpAny_loadPart' hb1
  exact ⟨plainId_quiet plain_eq_loop _, codeAny_builtin entry_eq_loop (by
    rw [Around.under_plainId plain_eq_loop _]
    exact hrec)⟩

end
section
variable {prog : Program} {w : World} {A : Around} {E : Value → Shared → Prop} {s : Shared}
theorem rc_listNG {l b : Addr} {N : Nat} {Q : Value → Shared → Prop} (hu : A.units < cLine) (I : Nat → Shared → Prop) (hl : ListI prog w A E l b N I)
    (fin : ∀ s, I N s → Q (.bool false) s) (h : I 0 s) : wpAny (model prog w) A (richCompare .NotEq (.ref l) (.ref b)) Q E s := by
  obtain ⟨items, items2, n, n2, hl1, hb1, _, _, _⟩ := hl _ _ h
  refine wpAny_richCompare_same_room (op := .NotEq) ⟨_, hl1, rfl⟩ ⟨_, hb1, rfl⟩ F.slot_list_ne (call_here F.slot_list_ne ⟨_, hl1, rfl⟩ F.entry_list_ne (F.args_list_ne_2 _ _) ?_) hu
  exact list_neG (R := wants (fun v s' => v ≠ .notImplemented ∧ Q v s') E) l b N I hl (fun s' q => ⟨(fun x => nomatch x), fin s' q⟩) h

end
end VcGQ
namespace Vc
open PySem PySem.Spec PyProof.Rows L2
section
variable {P : Program} {w : World} {K : PySem.W.Frag} {mg : Str → Option Value} {base : Heap} {k n : Nat} {X : Cx} {W : WX} {σ : L2.St} {H : Hp} {Q : VK} {x y : V} {D : Eqv}
theorem ne_listG (C : Ctx P w K mg base k X W) (hD : Mon D) (h : EqG X n D) (hn : n + 1 ≤ k) (d : DList D x y H) (q : ∀ H', Same H H' → Q (.bl false) H') : O2 X (compareOp .NotEq) x y σ H Q := by
  intro pins s v u I rx ry
  obtain ⟨a, b, xs, ys, rfl, rfl, ha, hb, p⟩ := d
  cases rx
  cases ry
  have sb : Sub X (n + 1) X.A := ⟨C.r.mono hn, rfl⟩
  show wpAny (model X.prog X.w) X.A (richCompare .NotEq (.ref a) (.ref b)) (EP X pins σ Q) X.xe s
  refine VcGQ.rc_listNG (N := xs.length) sb.room.units0 (fun _ s' => LoopI X pins σ H s') (fun i s' q => ?_) (fun s' l => ?_) ⟨H, I, L2.Ext.rfl'⟩
  · obtain ⟨H1, I1, e1⟩ := id q
    obtain ⟨z, its, k, r, e⟩ := I1.hok a _ (e1 _ _ ha)
    obtain ⟨z2, its2, k2, r2, e2⟩ := I1.hok b _ (e1 _ _ hb)
    refine ⟨its.toArray, its2.toArray, k, k2, e, e2, by rw [List.size_toArray, ← r.length], by rw [List.size_toArray, ← r2.length, ← p.1], fun h1 h2 => ?_⟩
    exact turnG hD h sb p r r2 i h1 h2 s' q
  · obtain ⟨H', I', e⟩ := l
    exact ⟨.bl false, H', I', rfl, q H' e⟩
theorem eq_listG (C : Ctx P w K mg base k X W) (hD : Mon D) (h : EqG X n D) (hn : n + 1 ≤ k) (d : DList D x y H) (q : ∀ H', Same H H' → Q (.bl true) H') : O2 X (compareOp .Eq) x y σ H Q :=
  .of (op_eqG (rcG_list hD h) (C.r.mono hn)) ⟨d, fun H' e => q H' e⟩
theorem eqG_own {Cc f : Addr} {R : Addr → Addr → Hp → Prop} {ps : List Str} {sp : Sp} (C : Ctx P w K mg base k X W) (M : Meth K Cc "__eq__" f) (F : FnS P w K mg base f n ps sp) (h : ∀ vs H Q E, spEq R vs H Q E → sp vs H Q E) : EqG X n (DIns Cc R) := by
  obtain ⟨rfl, rfl, rfl, rfl, rfl, hr, tk, _⟩ := C
  obtain ⟨fd, F, hb⟩ := F
  exact eqG_ins (E := fun _ _ _ => False) (F.imp h) M.at_ M.fn hb passLV
end
end Vc

namespace Vc
open PySem PySem.Spec PyProof.Rows L2
/-! ### dicts, by values -/
section
variable {X : Cx}
theorem ix_dict (hu : X.A.units + 1 < cLine) : IxR X (fun x y H Q => ∃ a v, x = .ref a ∧ DGet H a y (some v) ∧ Q v H) := by
  intro value slice pins s σ H x y v u Q I rx ry h hs
  obtain ⟨a, z, rfl, g, q⟩ := h
  cases rx
  have hT := dict_typeIs I g
  unfold subscriptTail
  refine wpAny_bind ?_
  rw [getitemInPython_of_ne hT.not_modules]
  refine wpAny_bind (wpAny_specialOf hT PySem.F.slot_dict_getitem.lookup ?_)
  have fin : wpAny (model X.prog X.w) X.A (subscripted slice false (.ref a) u) (fun r s₃ => wpAny (model X.prog X.w) X.A (letTemporaryGo value (.ref a) r >>= fun _ => pure r) (EP X pins σ Q) X.xe s₃) X.xe s := by
    rw [hs]
    exact wpAny_operating (d_getItem hu I g ry fun w' s3 I3 rw' => wpAny_bind (wpAny_letTemporaryGo (wpAny_pure ⟨z, H, I3, rw', q⟩)))
  first
    | exact wpAny_pure (wpAny_bind fin)
    | exact wpAny_bind (wpAny_pure (wpAny_bind fin))
    | exact wpAny_bind fin
end
section
variable {P : Program} {w : World} {K : PySem.W.Frag} {mg : Str → Option Value} {base : Heap} {k : Nat} {X : Cx} {W : WX} {σ : L2.St} {H : Hp} {Q : VK} {a : Addr} {y v : V} {o : Option V}
theorem Ctx.u1 (C : Ctx P w K mg base k X W) : X.A.units + 1 < cLine := by have := C.r.units; omega
theorem ix_d (C : Ctx P w K mg base k X W) (g : DGet H a y (some v)) (q : Q v H) : Ix X (.ref a) y σ H Q := .of (ix_dict C.u1) ⟨a, v, rfl, g, q⟩
theorem in_d (C : Ctx P w K mg base k X W) (g : DGet H a y o) (q : Q (.bl o.isSome) H) : O2 X (compareOp .In) y (.ref a) σ H Q := fun pins s v u I rx ry => by
  cases ry
  exact d_in C.u1 I g rx fun s' I' => ⟨.bl _, H, I', rfl, q⟩
theorem notin_d (C : Ctx P w K mg base k X W) (g : DGet H a y o) (q : Q (.bl (!o.isSome)) H) : O2 X (compareOp .NotIn) y (.ref a) σ H Q := fun pins s v u I rx ry => by
  cases ry
  exact d_notIn C.u1 I g rx fun s' I' => ⟨.bl _, H, I', rfl, q⟩
theorem get_d (C : Ctx P w K mg base k X W) (g : DGet H a y (some v)) (q : Q v H) : O2 X getItem (.ref a) y σ H Q := fun pins s v' u I rx ry => by
  cases rx
  exact d_getItem C.u1 I g ry fun w' s' I' rw' => ⟨_, H, I', rw', q⟩
theorem set_d {R : Hp → Prop} {H' : Hp} (C : Ctx P w K mg base k X W) (g : DPut H a y v H') (q : R H') : SetV X (.ref a) y v σ H R := .of (set_dict C.u1) ⟨a, H', rfl, g, q⟩
theorem s_disp {trs : List (TE × TE)} (q : ∀ p, H p = none → tPairs trs σ (upd H p (.dK [])) fun ps H2 => H2 p = some (.dK []) ∧ ∃ kvs : List (Key × V), ps = kvs.map (fun kv => (kV kv.1, kv.2)) ∧ kvs.length ≤ 15 ∧ Q (.ref p) (upd H2 p (.dK (mergeK [] kvs)))) : tDisp trs σ H Q := q
theorem s_pnil {R : List (V × V) → Hp → Prop} (q : R [] H) : tPairs [] σ H R := q
theorem s_pcons {R : List (V × V) → Hp → Prop} {tk tv : TE} {r : List (TE × TE)} (q : tk σ H fun x H1 => tv σ H1 fun y H2 => tPairs r σ H2 fun ps H3 => R ((x, y) :: ps) H3) : tPairs ((tk, tv) :: r) σ H R := q
theorem is_bb {c d : Bool} (q : Q (.bl (decide (c = d))) H) : O2 X (compareOp .Is) (.bl c) (.bl d) σ H Q := .of op_is_bl ⟨c, d, rfl, rfl, q⟩
theorem isnot_bb {c d : Bool} (q : Q (.bl (!decide (c = d))) H) : O2 X (compareOp .IsNot) (.bl c) (.bl d) σ H Q := .of op_isnot_bl ⟨c, d, rfl, rfl, q⟩
theorem in_D {x y : V} {d : PyData} {ds : List PyData} (C : Ctx P w K mg base k X W) (h1 : Dp K H x d) (h2 : Dp K H y (.list ds)) (s1 : SeqAt.shaped d = true) (s2 : SeqAt.shaped (.list ds) = true) (q : Q (.bl (ds.any fun z => PyData.eqv z d)) H) : O2 X (compareOp .In) x y σ H Q := by
  have hK := C.K
  subst hK
  have := C.r.un
  exact .of (op_inD (by omega)) ⟨d, ds, h1, h2, s1, s2, q⟩
theorem notin_D {x y : V} {d : PyData} {ds : List PyData} (C : Ctx P w K mg base k X W) (h1 : Dp K H x d) (h2 : Dp K H y (.list ds)) (s1 : SeqAt.shaped d = true) (s2 : SeqAt.shaped (.list ds) = true) (q : Q (.bl (!ds.any fun z => PyData.eqv z d)) H) : O2 X (compareOp .NotIn) x y σ H Q := by
  have hK := C.K
  subst hK
  have := C.r.un
  exact .of (op_notInD (by omega)) ⟨d, ds, h1, h2, s1, s2, q⟩
end
end Vc

namespace Vc
open PySem PySem.Spec PyProof.Rows L2
section
open PySem PySem.SeqAt GQ
/-! ### tuple(list), != of a tuple and itself, of an empty dict and itself -/
variable {P : Program} {w : World} {K : PySem.W.Frag} {mg : Str → Option Value} {base : Heap} {k : Nat} {X : Cx} {W : WX} {σ : L2.St} {H : Hp} {Q : VK}
theorem tuple_l {p : Addr} {xs : List V} (C : Ctx P w K mg base k X W) (h : SqL K H p xs) (q : ∀ l, H l = none → Q (.ref l) (upd H l (.tup xs))) : CV X (.type "tuple") [.ref p] σ H Q := by
  have hK := C.K
  subst hK
  exact .of call_tuple_of ⟨p, xs, rfl, .inl ⟨h, q⟩⟩
theorem ne_dict0 {a : Addr} (C : Ctx P w K mg base k X W) (h : H a = some (.dK [])) (q : Q (.bl false) H) : O2 X (compareOp .NotEq) (.ref a) (.ref a) σ H Q :=
  .of (op_ne_dictA C.r.units0) ⟨a, a, [], [], rfl, rfl, h, h, rfl, fun p hp => (nomatch hp), q⟩
theorem ne_tupself {a : Addr} {xs : List V} (C : Ctx P w K mg base k X W) (h : SqT K H a xs) (q : Q (.bl false) H) : O2 X (compareOp .NotEq) (.ref a) (.ref a) σ H Q := by
  have hK := C.K
  subst hK
  intro pins s v u I rx ry
  cases rx
  cases ry
  obtain ⟨its, r, e, z⟩ := I.tuple h
  obtain ⟨⟨cls, dd, data, sl⟩, ho, hc, n, hd⟩ := id e
  simp only at hc hd
  subst hc hd
  show wpAny (model X.prog X.w) X.A (richCompare .NotEq (.ref a) (.ref a)) (EP X pins σ Q) X.xe s
  refine wpAny_richCompare_same_room (op := .NotEq) ⟨_, ho, rfl⟩ ⟨_, ho, rfl⟩ F.slot_tuple_ne (call_here F.slot_tuple_ne ⟨_, ho, rfl⟩ F.entry_tuple_ne (F.args_tuple_ne_2 _ _) ?_) C.r.units0
  refine tuple_neAt a a its.toArray its.toArray n n dd dd sl sl (fun _ => true) X.prog X.w _ _ _ ⟨ho, ho, fun j h1 h2 => ?_, ?_⟩
  · exact EqAt.same _
  · have e1 : ((List.range (min its.toArray.size its.toArray.size)).all (fun _ => true) && its.toArray.size == its.toArray.size) = true := by simp
    rw [e1]
    exact ⟨(fun x => nomatch x), .bl false, H, I, rfl, q⟩
end
end Vc

namespace Vc
open PySem PySem.Spec PyProof.Rows L2
/-! ### a list with a part turned around -/
def trn {α : Type} (l : List α) (i j : Nat) : List α := (l.take i ++ ((l.take j).drop i).reverse) ++ l.drop j
theorem trn_map {α β : Type} (f : α → β) (l : List α) (i j : Nat) : trn (l.map f) i j = (trn l i j).map f := by
  unfold trn
  simp only [List.map_append, List.map_take, List.map_drop, List.map_reverse]
theorem trn_len {α : Type} {l : List α} {i j : Nat} (h : i ≤ j) : (trn l i j).length = l.length := by
  unfold trn
  simp only [List.length_append, List.length_reverse, List.length_drop, List.length_take]
  omega
theorem trn_trn {α : Type} {l : List α} {i j : Nat} (h : i ≤ j) (hj : j ≤ l.length) : trn (trn l i j) i j = l := by
  have e : ∀ (A M Z : List α), A.length = i → M.length = j - i → trn (A ++ M ++ Z) i j = A ++ M.reverse ++ Z := by
    intro A M Z hA hM
    unfold trn
    have e1 : (A ++ M ++ Z).take i = A := by rw [List.append_assoc, List.take_left' hA]
    have e2 : (A ++ M ++ Z).take j = A ++ M := by rw [List.take_left' (by rw [List.length_append]; omega)]
    have e3 : (A ++ M ++ Z).drop j = Z := by rw [List.drop_left' (by rw [List.length_append]; omega)]
    rw [e1, e2, e3, List.drop_left' hA]
  have hA : (l.take i).length = i := by rw [List.length_take]; omega
  have hM : ((l.take j).drop i).length = j - i := by rw [List.length_drop, List.length_take]; omega
  have e0 : l.take i ++ (l.take j).drop i ++ l.drop j = l := by
    have : l.take i = (l.take j).take i := by rw [List.take_take, Nat.min_eq_left h]
    rw [this, List.take_append_drop, List.take_append_drop]
  have e1 : trn l i j = l.take i ++ ((l.take j).drop i).reverse ++ l.drop j := rfl
  rw [e1, e _ _ _ hA (by rw [List.length_reverse]; exact hM), List.reverse_reverse]
  exact e0
theorem trn_perm {α : Type} {l : List α} {i j : Nat} (h : i ≤ j) : (trn l i j).Perm l := by
  have e0 : l.take i ++ (l.take j).drop i ++ l.drop j = l := by
    have : l.take i = (l.take j).take i := by rw [List.take_take, Nat.min_eq_left h]
    rw [this, List.take_append_drop, List.take_append_drop]
  conv => rhs; rw [← e0]
  unfold trn
  exact ((List.reverse_perm _).append_left _).append_right _
theorem cutV_to (xs : List V) {j : Int} (h : 0 ≤ j) : cutV xs none (some j) = xs.take j.toNat := by
  unfold cutV
  rw [sIx_of h]
  show (xs.drop 0).take (min j.toNat xs.length - 0) = _
  rw [List.drop_zero, Nat.sub_zero]
  by_cases h : j.toNat ≤ xs.length
  · rw [Nat.min_eq_left h]
  · rw [Nat.min_eq_right (by omega), List.take_of_length_le (Nat.le_refl _), List.take_of_length_le (by omega)]
theorem cutV_from (xs : List V) {i : Int} (h : 0 ≤ i) : cutV xs (some i) none = xs.drop i.toNat := by
  unfold cutV
  rw [sIx_of h]
  show (xs.drop (min i.toNat xs.length)).take (xs.length - min i.toNat xs.length) = _
  rw [List.take_of_length_le (by rw [List.length_drop]; exact Nat.le_refl _)]
  by_cases h : i.toNat ≤ xs.length
  · rw [Nat.min_eq_left h]
  · rw [Nat.min_eq_right (by omega), List.drop_eq_nil_of_le (Nat.le_refl _), List.drop_eq_nil_of_le (by omega)]
theorem cutV_mid (xs : List V) {i j : Int} (h : 0 ≤ i) (hj : 0 ≤ j) : cutV xs (some i) (some j) = (xs.take j.toNat).drop i.toNat := by
  unfold cutV
  rw [sIx_of h, sIx_of hj, List.drop_take]
  by_cases h1 : i.toNat ≤ xs.length
  · rw [Nat.min_eq_left h1]
    by_cases h2 : j.toNat ≤ xs.length
    · rw [Nat.min_eq_left h2]
    · rw [Nat.min_eq_right (by omega), List.take_of_length_le (by rw [List.length_drop]; omega), List.take_of_length_le (by rw [List.length_drop]; omega)]
  · rw [Nat.min_eq_right (b := xs.length) (a := i.toNat) (by omega), List.drop_eq_nil_of_le (Nat.le_refl _), List.drop_eq_nil_of_le (as := xs) (i := i.toNat) (by omega)]
    simp
section
variable {P : Program} {w : World} {K : PySem.W.Frag} {mg : Str → Option Value} {base : Heap} {k : Nat} {X : Cx} {W : WX} {σ : L2.St} {H : Hp} {Q : VK}
/-! ### ranges as values, list(range) -/
theorem cr_range1 : CallR X (.type "range") (fun vs H Q => ∃ n, vs = [V.int n] ∧ ∀ p, H p = none → Q (.ref p) (upd H p (.rng 0 n))) := by
  intro pins s σ H vs us Q I r h
  obtain ⟨n, rfl, q⟩ := h
  obtain ⟨u, rfl, ru⟩ := vals1 r
  obtain ⟨t, rfl⟩ := ru
  refine call_range_1 ⟨.ref s.heap.objs.size, upd H s.heap.objs.size (.rng 0 n), I.laid (t' := s.toks + 1 + 1) (fun b o e => Heap.get?_push_of_some _ e) (Nat.le_refl _) ?_, rfl, q _ (I.hok.fresh (Nat.le_refl _))⟩
  exact ⟨s.toks, t, s.toks + 1, Heap.get?_push_size _ rfl⟩
theorem range_1 {n : Int} (q : ∀ p, H p = none → Q (.ref p) (upd H p (.rng 0 n))) : CV X (.type "range") [.int n] σ H Q := .of cr_range1 ⟨n, rfl, q⟩
theorem list_rng {p : Addr} {a b : Int} (C : Ctx P w K mg base k X W) (h : H p = some (.rng a b)) (ok : RgOk a b) (q : ∀ l, H l = none → Q (.ref l) (upd H l (.lst (rgV a b)))) : CV X (.type "list") [.ref p] σ H Q := by
  intro pins s us I rv
  obtain rfl := Vals.ref1 rv
  obtain ⟨t, u, v, ho⟩ := I.hok _ _ h
  obtain ⟨b1, b2, b3, b4, b5⟩ := ok
  refine call_list_range (n := (b - a).toNat) (I.ok.hd C.c) ho (small_one b1 b2 b3 b4) (rangeSize_nat a b) b5 fun h' tk acc c' hk e' hi => ?_
  refine ⟨.ref s.heap.objs.size, upd H s.heap.objs.size (.lst (rgV a b)), I.laid hk (Nat.le_refl _) (show ObjOk X.prog X.w _ _ _ (.lst (rgV a b)) from ⟨?_, acc.toList, c', vals_rg hi, ?_⟩), rfl, q _ (I.hok.fresh (Nat.le_refl _))⟩
  · rw [rgV_length, sizeLine_eq]; omega
  · rw [Array.toArray_toList]; exact e'
/-- 0 .. n - 1 -/
def upto (n : Nat) : List Int := (List.range n).map fun i : Nat => (i : Int)
theorem upto_len (n : Nat) : (upto n).length = n := by unfold upto; simp
theorem rg_upto (n : Int) : rgV 0 n = (upto n.toNat).map V.int := by
  unfold rgV upto
  rw [List.map_map, Int.sub_zero]
  apply List.map_congr_left
  intro i _
  show V.int (0 + (i : Int)) = V.int i
  rw [Int.zero_add]
theorem list_upto {p : Addr} {n : Int} (C : Ctx P w K mg base k X W) (h : H p = some (.rng 0 n)) (h0 : 0 ≤ n) (h1 : n ≤ 16777216) (q : ∀ l, H l = none → Q (.ref l) (upd H l (.lst ((upto n.toNat).map V.int)))) : CV X (.type "list") [.ref p] σ H Q :=
  list_rng C h (RgOk.of_le (by omega) h1 (by omega) h0) fun l nl => by rw [rg_upto]; exact q l nl
/-! ### len of an instance with an own __len__ -/
theorem len_own {a Cc dx f : Addr} {fs : List (Str × V)} {ps : List Str} {sp : Sp} {j : Nat} (C : Ctx P w K mg base k X W) (h : H a = some (.ins Cc dx fs)) (M : Meth K Cc "__len__" f) (F : FnS P w K mg base f j ps sp) (hj : j + 1 ≤ k)
    (q : sp [.ref a] H (fun v H' => ∃ n : Nat, v = .int n ∧ n < 2 ^ 62 ∧ Q (.int n) H') (WE W σ)) : CV X (.builtin "len") [.ref a] σ H Q := by
  obtain ⟨rfl, rfl, rfl, rfl, rfl, hr, tk, _⟩ := C
  intro pins s us I rv
  obtain rfl := Vals.ref1 rv
  obtain ⟨mA, J, _⟩ := ins_get I.hok h
  obtain ⟨od, J, _⟩ := J.look
  obtain ⟨m, hF⟩ := I.fr
  have hr1 : Room j X.A.in1 := (hr.mono hj).in1
  refine PySem.W.len_K hF I.ok.mod.kin J M.at_ M.fn ?_
  exact thn (run_in F hr1 (by exact I.ok.frames) tk I (.cons (show RelV (.ref a) (.ref a) from rfl) .nil) q) fun r s' ⟨z, H', I', rz, n, ez, hn, q'⟩ => by
    subst ez
    obtain ⟨t, rfl⟩ := rz
    exact ⟨⟨by omega, by omega⟩, .int n, H', I'.tok _, ⟨_, rfl⟩, q'⟩
/-! ### a[:i] + a[i:j][::-1] + a[j:] -/
theorem turn_expr {v : Nat} {ta tb : TE} {i j : Int} {p : Addr} {xs : List V} (C : Ctx P w K mg base k X W) (hv : σ[v]? = some (some (.ref p))) (hx : H p = some (.lst xs)) (hz : xs.length ≤ 100000) (hi : 0 ≤ i) (hij : i ≤ j)
    (ha : ∀ (H1 : Hp) (Q' : VK), Same H H1 → (∀ H2, Same H1 H2 → Q' (.int i) H2) → ta σ H1 Q') (hb : ∀ (H1 : Hp) (Q' : VK), Same H H1 → (∀ H2, Same H1 H2 → Q' (.int j) H2) → tb σ H1 Q')
    (q : ∀ l H', H l = none → Same H H' → H' l = some (.lst (trn xs i.toNat j.toNat)) → Q (.ref l) H') :
    tBin X (binaryOp .Add) (tBin X (binaryOp .Add) (tSlc X (tVar v) tNoPart (tPart ta)) (tRevA X.K (tSlc X (tVar v) (tPart ta) (tPart tb)))) (tSlc X (tVar v) (tPart tb) tNoPart) σ H Q := by
  have hK := C.K
  refine s_bin (s_bin (s_slc (s_var hv (s_nopart (s_part ?_)))))
  refine ha _ _ (Same.refl _) fun H1 s1 => ⟨i, rfl, slc_l C (.of (s1 _ _ hx)) fun a na => ?_⟩
  rw [cutV_to _ hi]
  have s1' := s1.trans (same_upd (o := .lst (xs.take i.toNat)) na)
  refine rev_tx (s_slc (s_var hv (s_part ?_)))
  refine ha _ _ s1' fun H2 s2 => ⟨i, rfl, s_part ?_⟩
  refine hb _ _ (s1'.trans s2) fun H3 s3 => ⟨j, rfl, slc_l C (.of ((s1'.trans (s2.trans s3)) _ _ hx)) fun b nb => ?_⟩
  rw [cutV_mid _ hi (by omega), hK]
  have s3' := s3.trans (same_upd (o := .lst ((xs.take j.toNat).drop i.toNat)) nb)
  refine .inl ⟨b, _, rfl, .of upd_same, fun c nc => ?_⟩
  have s4 := s3'.trans (same_upd (o := .lst ((xs.take j.toNat).drop i.toNat).reverse) nc)
  refine cat_l ((s2.trans s4) _ _ upd_same) upd_same (sz2 ?_) fun d nd => ?_
  · simp only [List.length_reverse, List.length_drop, List.length_take]
    omega
  have s5 := s4.trans (same_upd (o := .lst (xs.take i.toNat ++ ((xs.take j.toNat).drop i.toNat).reverse)) nd)
  refine s_slc (s_var hv (s_part ?_))
  refine hb _ _ (s1'.trans (s2.trans s5)) fun H4 s6 => ⟨j, rfl, s_nopart (slc_l C (.of ((s1'.trans (s2.trans (s5.trans s6))) _ _ hx)) fun e ne => ?_)⟩
  rw [cutV_from _ (by omega)]
  have s7 := s6.trans (same_upd (o := .lst (xs.drop j.toNat)) ne)
  refine cat_l (s7 _ _ upd_same) upd_same (sz2 ?_) fun l nl => ?_
  · simp only [List.length_append, List.length_reverse, List.length_drop, List.length_take]
    omega
  have s8 := s1'.trans (s2.trans (s5.trans s7))
  refine q l _ ?_ (s8.trans (same_upd nl)) upd_same
  cases eo : H l with
  | none => rfl
  | some o => rw [s8 _ _ eo] at nl; cases nl
/-! ### comprehensions whose values are told by a relation -/
theorem rel_step {R : Hp → V → Nat → Prop} (hk : ∀ {H1 H2 : Hp} {D : Addr} {zs : List V} {y : V} {i : Nat}, H1 D = some (.lst zs) → SameX D H1 H2 → R H1 y i → R H2 y i) {i : Nat} {D : Addr} {H0 H' H4 : Hp} {y : V} (hD : H0 D = none) (hz : i < sizeLine)
    (p : Same H0 H' ∧ ∃ ys, H' D = some (.lst ys) ∧ ys.length = i ∧ ∀ j y, ys[j]? = some y → R H' y j) (s4 : Same H' H4) (hy : R H4 y i) :
    ∃ acc, H4 D = some (.lst acc) ∧ acc.length < sizeLine ∧ Same H0 (upd H4 D (.lst (acc ++ [y]))) ∧ ∃ ys, upd H4 D (.lst (acc ++ [y])) D = some (.lst ys) ∧ ys.length = i + 1 ∧ ∀ j y', ys[j]? = some y' → R (upd H4 D (.lst (acc ++ [y]))) y' j := by
  obtain ⟨s, ys, h1, h2, h3⟩ := p
  have hd := s4 _ _ h1
  refine ⟨ys, hd, by omega, fun b o eb => ?_, _, upd_same, by rw [List.length_append, h2]; rfl, fun j y' e => ?_⟩
  · rw [upd_ne (ne_of_none eb hD)]
    exact s4 _ _ (s _ _ eb)
  · refine hk hd SameX.upd ?_
    by_cases hj : j < ys.length
    · rw [List.getElem?_append_left hj] at e
      exact hk h1 (Same_x s4) (h3 j y' e)
    · have hj' : j = i := by
        have := (List.getElem?_eq_some_iff.mp e).1
        rw [List.length_append] at this
        have h1' : [y].length = 1 := rfl
        omega
      subst hj'
      rw [List.getElem?_append_right (by omega), h2, Nat.sub_self] at e
      cases e
      exact hy
theorem lc_rel {a : Addr} {xs : List V} {g : TG} {te : TE} {vs : List Nat} (h : SqL K H a xs) (hz : xs.length ≤ sizeLine) (R : Hp → V → Nat → Prop)
    (hk : ∀ {H1 H2 : Hp} {D : Addr} {zs : List V} {y : V} {i : Nat}, H1 D = some (.lst zs) → SameX D H1 H2 → R H1 y i → R H2 y i)
    (hs : ∀ (i : Nat) (x : V) (H' : Hp) (Rk : V → Hp → Prop), xs[i]? = some x → Same H H' → (∀ y H4, Same H' H4 → R H4 y i → Rk y H4) → g x (wipe σ vs) H' fun σ2 H2 => wipe σ2 vs = wipe σ vs ∧ te σ2 H2 Rk)
    (q : ∀ D H' ys, H D = none → Same H H' → H' D = some (.lst ys) → ys.length = xs.length → (∀ i y, ys[i]? = some y → R H' y i) → Q (.ref D) H') : LcT (Itl K a) g tYes te vs σ H Q := by
  intro D hD
  refine lc_list (fun i H' => Same H H' ∧ ∃ ys, H' D = some (.lst ys) ∧ ys.length = i ∧ ∀ j y, ys[j]? = some y → R H' y j) ⟨same_upd hD, [], upd_same, rfl, fun j y e => by simp at e⟩ (fun i H' _ p => SqL_same p.1 h) (fun i x H' hx p => ?_) (fun H' p => ?_)
  · have hi : i < xs.length := (List.getElem?_eq_some_iff.mp hx).1
    rw [yes_eq]
    exact hs i x H' _ hx p.1 fun y H4 s4 hy => rel_step (R := R) hk hD (Nat.lt_of_lt_of_le hi hz) p s4 hy
  · obtain ⟨s, ys, h1, h2, h3⟩ := p
    exact q D H' ys hD s h1 h2 h3
theorem lc_relR {lo : Int} {n : Nat} {g : TG} {te : TE} {vs : List Nat} (hz : n ≤ sizeLine) (R : Hp → V → Nat → Prop)
    (hk : ∀ {H1 H2 : Hp} {D : Addr} {zs : List V} {y : V} {i : Nat}, H1 D = some (.lst zs) → SameX D H1 H2 → R H1 y i → R H2 y i)
    (hs : ∀ (i : Nat) (H' : Hp) (Rk : V → Hp → Prop), i < n → Same H H' → (∀ y H4, Same H' H4 → R H4 y i → Rk y H4) → g (.int (lo + i)) (wipe σ vs) H' fun σ2 H2 => wipe σ2 vs = wipe σ vs ∧ te σ2 H2 Rk)
    (q : ∀ D H' ys, H D = none → Same H H' → H' D = some (.lst ys) → ys.length = n → (∀ i y, ys[i]? = some y → R H' y i) → Q (.ref D) H') : LcT (Itr lo n) g tYes te vs σ H Q := by
  intro D hD
  refine lc_range (fun i H' => Same H H' ∧ ∃ ys, H' D = some (.lst ys) ∧ ys.length = i ∧ ∀ j y, ys[j]? = some y → R H' y j) ⟨same_upd hD, [], upd_same, rfl, fun j y e => by simp at e⟩ (fun i H' hi p => ?_) (fun H' p => ?_)
  · rw [yes_eq]
    exact hs i H' _ hi p.1 fun y H4 s4 hy => rel_step (R := R) hk hD (Nat.lt_of_lt_of_le hi hz) p s4 hy
  · obtain ⟨s, ys, h1, h2, h3⟩ := p
    exact q D H' ys hD s h1 h2 h3
end
end Vc

namespace Vc
open PySem PySem.Spec PyProof.Rows L2
/-! ### dict comprehensions, ranges with a step, a dict's values, sorted by a key -/
section
variable {P : Program} {w : World} {K : PySem.W.Frag} {mg : Str → Option Value} {base : Heap} {k : Nat} {X : Cx} {W : WX} {σ : L2.St} {H : Hp} {Q : VK}
def DcT (J : It) (g : TG) (tt : TT) (tk tv : TE) (vs : List Nat) (σ : L2.St) (H1 : Hp) (Q : VK) : Prop := ∀ D, H1 D = none → ∃ W : Nat → Nat → Hp → Prop, (∃ m, W 0 m (upd H1 D (.dK []))) ∧ ∀ i m H, W i m H →
  (J.stop i H ∧ Q (.ref D) H) ∨ (J.go i H ∧ ∃ Nx : Hp → Prop, (∀ H', Nx H' → ∃ m', m' < m ∧ W (i + 1) m' H') ∧ ∀ x H', J.yld i H x H' → g x (wipe σ vs) H' fun σ2 H2 => wipe σ2 vs = wipe σ vs ∧ tt σ2 H2 fun b H3 =>
    if b = true then tk σ2 H3 fun y H4 => tv σ2 H4 fun z H5 => ∃ kvs k, y = kV k ∧ H5 D = some (.dK kvs) ∧ kvs.length < sizeLine ∧ Nx (upd H5 D (.dK (putK kvs k z))) else Nx H3)
theorem s_dcA {g : TG} {tt : TT} {te0 tk tv : TE} {vs : List Nat} (C : Ctx P w K mg base k X W) (q : te0 σ H fun x H1 => IterV X x σ H1 fun J H2 => DcT J g tt tk tv vs σ H2 Q) : tDcC X (iAny X te0) g tt tk tv vs σ H Q := ⟨C.c, q⟩
/-- {key: value for x in a list}, the keys told and different -/
theorem dc_list {a : Addr} {xs : List V} {g : TG} {tk tv : TE} {vs : List Nat} (h : SqL K H a xs) (ps : List (Key × V)) (hl : ps.length = xs.length) (hz : xs.length < sizeLine) (nd : (ps.map Prod.fst).Nodup)
    (hs : ∀ (i : Nat) (x : V) (p : Key × V) (H' : Hp) (R : V → V → Hp → Prop), xs[i]? = some x → ps[i]? = some p → Same H H' → (∀ H4, Same H' H4 → R (kV p.1) p.2 H4) →
      g x (wipe σ vs) H' fun σ2 H2 => wipe σ2 vs = wipe σ vs ∧ tk σ2 H2 fun y H4 => tv σ2 H4 fun z H5 => R y z H5)
    (q : ∀ D H', H D = none → Same H H' → H' D = some (.dK ps) → Q (.ref D) H') : DcT (Itl K a) g tYes tk tv vs σ H Q := by
  intro D hD
  refine ⟨fun i m H' => m = xs.length - i ∧ i ≤ xs.length ∧ Same H H' ∧ H' D = some (.dK (ps.take i)), ⟨xs.length, by simp, Nat.zero_le _, same_upd hD, upd_same⟩, ?_⟩
  rintro i m H' ⟨rfl, hi, sm, hd⟩
  have q' := SqL_same sm h
  by_cases hlt : i < xs.length
  · refine .inr ⟨⟨xs, xs[i], q', by simp [hlt]⟩, fun H2 => Same H H2 ∧ H2 D = some (.dK (ps.take (i + 1))), fun H2 p => ⟨xs.length - (i + 1), by omega, rfl, hlt, p⟩, fun x H2 y => ?_⟩
    obtain ⟨e, y⟩ := y
    subst e
    have ex := y xs q'
    have hp : i < ps.length := by omega
    refine hs i x ps[i] _ (fun y z H5 => ∃ kvs k, y = kV k ∧ H5 D = some (.dK kvs) ∧ kvs.length < sizeLine ∧ (fun H2 => Same H H2 ∧ H2 D = some (.dK (ps.take (i + 1)))) (upd H5 D (.dK (putK kvs k z)))) ex (List.getElem?_eq_getElem hp) sm fun H4 s4 => ?_
    refine ⟨ps.take i, ps[i].1, rfl, s4 _ _ hd, by rw [List.length_take]; omega, fun b o eb => ?_, ?_⟩
    · rw [upd_ne (ne_of_none eb hD)]
      exact s4 _ _ (sm _ _ eb)
    · have tk : ps.take (i + 1) = ps.take i ++ [ps[i]] := List.take_succ_eq_append_getElem hp
      have nv : L2.valV (ps.take i) ps[i].1 = none := by
        cases e : L2.valV (ps.take i) ps[i].1 with
        | none => rfl
        | some v =>
          exfalso
          have hm : ps[i].1 ∈ (ps.take i).map Prod.fst := by
            unfold L2.valV at e
            obtain ⟨z, hz2, _⟩ := Option.map_eq_some_iff.mp e
            have e1 := List.find?_some hz2
            have e2 := List.mem_of_find?_eq_some hz2
            exact List.mem_map.mpr ⟨z, e2, by simpa using e1⟩
          have nd' : ((ps.take i ++ [ps[i]]).map Prod.fst).Nodup := by
            rw [← tk]
            exact nd.sublist ((List.take_sublist _ _).map _)
          rw [List.map_append, List.nodup_append] at nd'
          exact nd'.2.2 _ hm _ (by simp) rfl
      rw [upd_same, putK_new _ nv, tk]
  · have e : i = xs.length := by omega
    subst e
    refine .inl ⟨⟨xs, q', Nat.le_refl _⟩, q D H' hD sm ?_⟩
    rw [← hl, List.take_length] at hd
    exact hd
/-! ranges with a step -/
theorem s_for3 {ta : TA} {g : TG} {tb : TS} {D : Ends} (m : X.mg "range" = none) (q : ta σ H fun vs H1 => ∃ (i j c : Int) (n : Nat), vs = [.int i, .int j, .int c] ∧ RgC i j c n ∧ Lp (Itc i c n) g tb D σ H1) : tForO (iRg3 X ta) g tb D σ H := .inl ⟨m, q⟩
theorem s_lc3 {g : TG} {tt : TT} {te : TE} {ta : TA} {vs : List Nat} (C : Ctx P w K mg base k X W) (m : X.mg "range" = none) (q : ta σ H fun us H1 => ∃ (i j c : Int) (n : Nat), us = [.int i, .int j, .int c] ∧ RgC i j c n ∧ LcT (Itc i c n) g tt te vs σ H1 Q) : tLcC X (iRg3 X ta) g tt te vs σ H Q := ⟨C.c, .inl ⟨m, q⟩⟩
theorem lp_rangeC {lo c : Int} {n : Nat} {g : TG} {tb : TS} {D : Ends} (Pv : Nat → L2.St → Hp → Prop) (h0 : Pv 0 σ H)
    (hs : ∀ i σ H, i < n → Pv i σ H → g (.int (lo + (i : Nat) * c)) σ H fun σ2 H2 => tb { D with nx := Pv (i + 1), ct := Pv (i + 1), bk := D.nx } σ2 H2) (hd : ∀ σ H, Pv n σ H → D.nx σ H) : Lp (Itc lo c n) g tb D σ H := for_rangeC Pv h0 hs hd
/-- range(i, j, 2) -/
theorem rgC2 {i j : Int} (h0 : 0 ≤ i) (h1 : i < 1000000) (h2 : 0 ≤ j) (h3 : j < 1000000) : RgC i j 2 ((j - i + 1) / 2).toNat := by
  refine ⟨by decide, by decide, ?_, ?_⟩
  · unfold Builtin.Range.small Builtin.Range.rangeSize
    simp only [Builtin.Range.rangeFitsLong, Bool.and_eq_true, Bool.or_eq_true, decide_eq_true_eq, beq_iff_eq, show (2 : Int) > 0 by decide, if_true]
    split <;> omega
  · unfold Builtin.Range.rangeSize
    rw [if_pos (by decide)]
    split <;> omega
/-- [elt for x in range with a step], the elements told up to what a test says -/
theorem lc_relC {lo c : Int} {n : Nat} {g : TG} {te : TE} {vs : List Nat} (hz : n ≤ sizeLine) (R : Hp → V → Nat → Prop)
    (hk : ∀ {H1 H2 : Hp} {D : Addr} {zs : List V} {y : V} {i : Nat}, H1 D = some (.lst zs) → SameX D H1 H2 → R H1 y i → R H2 y i)
    (hs : ∀ (i : Nat) (H' : Hp) (Rk : V → Hp → Prop), i < n → Same H H' → (∀ y H4, Same H' H4 → R H4 y i → Rk y H4) → g (.int (lo + (i : Nat) * c)) (wipe σ vs) H' fun σ2 H2 => wipe σ2 vs = wipe σ vs ∧ te σ2 H2 Rk)
    (q : ∀ D H' ys, H D = none → Same H H' → H' D = some (.lst ys) → ys.length = n → (∀ i y, ys[i]? = some y → R H' y i) → Q (.ref D) H') : LcT (Itc lo c n) g tYes te vs σ H Q := by
  intro D hD
  refine ⟨fun i m H' => m = n - i ∧ i ≤ n ∧ Same H H' ∧ ∃ ys, H' D = some (.lst ys) ∧ ys.length = i ∧ ∀ j y, ys[j]? = some y → R H' y j, ⟨n, by simp, Nat.zero_le _, same_upd hD, [], upd_same, rfl, fun j y e => by simp at e⟩, ?_⟩
  rintro i m H' ⟨rfl, hi, p⟩
  by_cases hlt : i < n
  · refine .inr ⟨hlt, fun H2 => Same H H2 ∧ ∃ ys, H2 D = some (.lst ys) ∧ ys.length = i + 1 ∧ ∀ j y, ys[j]? = some y → R H2 y j, fun H2 p => ⟨n - (i + 1), by omega, rfl, hlt, p⟩, fun x H2 y => ?_⟩
    obtain ⟨e, rfl⟩ := y
    subst e
    rw [yes_eq]
    exact hs i _ _ hlt p.1 fun y H4 s4 hy => rel_step (R := R) hk hD (Nat.lt_of_lt_of_le hlt hz) p s4 hy
  · have e : i = n := by omega
    subst e
    obtain ⟨s, ys, h1, h2, h3⟩ := p
    exact .inl ⟨Nat.le_refl _, q D H' ys hD s h1 h2 h3⟩
/-! lists extended -/
theorem mth_extend {p : Addr} {xs : List V} (C : Ctx P w K mg base k X W) (h : SqL K H p xs) : Mth X "extend" (.ref p) H (.builtin "list.extend") := by
  have hK := C.K
  subst hK
  exact .blt PySem.F.plainAttrs_list PySem.F.slot_list_extend PySem.F.type_list_extend (.inl ⟨rfl, xs, h⟩)
theorem ext_m {l b : Addr} {xs zs : List V} (h : H l = some (.lst xs)) (hb : H b = some (.lst zs)) (hz : xs.length + zs.length ≤ sizeLine) (q : Q .non (upd H l (.lst (xs ++ zs)))) : CV X (.builtin "list.extend") [.ref l, .ref b] σ H Q := .ofM mt_extend ⟨l, b, xs, zs, rfl, rfl, h, hb, hz, q⟩
/-! a dict's values, summed -/
def rVals : List V → Hp → VK → Prop := fun xs H Q => ∃ (d : Addr) (kvs : List (Key × V)), xs = [.ref d] ∧ H d = some (.dK kvs) ∧ ∀ p, H p = none → Q (.ref p) (upd H p (viewO "dict_values" p d))
theorem cr_vals : CallR X (.builtin "dict.values") rVals := by
  intro pins s σ H xs us Q I rx h
  obtain ⟨a, kvs, rfl, ha, q⟩ := h
  rw [Vals.ref1 rx]
  obtain ⟨_, hsys, vs, rel, dof⟩ := dk_of I.hok ha
  obtain ⟨ep, dat⟩ := dof.dictAt
  obtain ⟨ob, es, ho, ex, hdat, hko, hpr, hnd⟩ := dat
  refine call_meetsIn F.slot_dict_values ⟨ob, ho, ex.1⟩ F.entry_dict_values (F.args_dict_values_1 _) (meets_dict_values (mixKind X.prog X.w) a hsys) ⟨⟨vs, dof⟩, ?_⟩
  exact ⟨.ref s.heap.objs.size, _, I.laid (t' := s.toks) (fun b o q => Heap.get?_push_of_some _ q) (Nat.le_refl _) (viewO_ok (Heap.get?_push_size _ rfl)), rfl, q _ (I.hok.fresh (Nat.le_refl _))⟩
def rSumV : List V → Hp → VK → Prop := fun xs H Q => ∃ (p d : Addr) (kvs : List (Key × V)) (ns : List Int), xs = [.ref p] ∧ H p = some (viewO "dict_values" p d) ∧ H d = some (.dK kvs) ∧ kvs.map Prod.snd = ns.map V.int ∧ Q (.int ns.sum) H
theorem preSum_list : ∀ ns : List Int, preSum (fun i => ns.getD i 0) ns.length = ns.sum
  | [] => rfl
  | n :: ns => by
    show preSum _ (ns.length + 1) = _
    rw [PySem.W.kdu_shift, List.sum_cons, ← preSum_list ns]
    rfl
theorem cr_sumV (hc : X.calm = true) : CallR X (.builtin "sum") rSumV := by
  intro pins s σ H xs us Q I rx h
  obtain ⟨p, a, kvs, ns, rfl, hp, ha, hns, q⟩ := h
  rw [Vals.ref1 rx]
  obtain ⟨_, hsys, vs, rel, dof⟩ := dk_of I.hok ha
  obtain ⟨ep, dat⟩ := dof.dictAt
  have hv : s.heap.get? p = some (DSub.viewOb "dict_values" a) := (show ObjOk X.prog X.w H s.heap p (viewO "dict_values" p a) from I.hok p _ hp).1
  have hlv : vs.length = ns.length := by
    have e1 := congrArg List.length hns
    rw [List.length_map, List.length_map] at e1
    rw [← e1]
    exact (KV.length rel).symm
  have hval : ∀ (i : Nat) (v : Value), (∃ k, vs[i]? = some (k, v)) → ∃ t, v = Value.int (ns.getD i 0) t := fun i v ⟨k, hk⟩ => by
    obtain ⟨x, h1, h2⟩ := KV.at' rel hk
    have e1 : (kvs.map (·.2))[i]? = some x := by rw [List.getElem?_map, h1] <;> rfl
    rw [show kvs.map (·.2) = ns.map V.int from hns, List.getElem?_map] at e1
    obtain ⟨j, hj, e2⟩ := Option.map_eq_some_iff.mp e1
    subst e2
    obtain ⟨t, e3⟩ := h2
    refine ⟨t, ?_⟩
    rw [e3, List.getD_eq_getElem?_getD, hj] <;> rfl
  have hok : (fun h : Heap => h.IsValuesView p a ∧ h.DictAt (mixKind X.prog X.w) a vs ep) s.heap := ⟨⟨_, hv, rfl, rfl⟩, dat⟩
  refine call_sum_walkAnyS ?_
  have K := PySem.W.kdl_values (prog := X.prog) (w := X.w) (knd := mixKind X.prog X.w) (d := a) (r := p) (kvs := vs) (ep := ep)
  obtain ⟨oI, St, hit, W, st⟩ := K.iter X.A.in1 s (I.ok.hd hc) hok
  refine hit _ _ ⟨s.heap.objs.size, _, _, _, vs.length, _, _, fun i => ns.getD i 0, rfl, W.toS, st, fun b hb => ?_, hval, fun s' t' hm => ?_⟩
  · show b < (s.heap.push oI).objs.size
    rw [size_push']
    rcases List.mem_cons.mp hb with e | hb
    · rw [e]
      exact Nat.lt_succ_self _
    · rw [List.mem_singleton.mp hb]
      exact Nat.lt_succ_of_lt (K.there _ hok).2
  · have hk : ∀ b o, s.heap.get? b = some o → s'.heap.get? b = some o := fun b o e =>
      hm.heap b o (fun hI => absurd (Heap.lt_size e) (by rw [List.mem_singleton.mp hI]; exact Nat.lt_irrefl _)) (Heap.get?_push_of_some _ e)
    rw [Moved.eq_with hm, hlv, preSum_list]
    exact ⟨.int _, H, I.kept (t' := s'.toks) hk, ⟨t', rfl⟩, q⟩
theorem mth_values {d : Addr} {kvs : List (Key × V)} (C : Ctx P w K mg base k X W) (h : H d = some (.dK kvs)) : Mth X "values" (.ref d) H (.builtin "dict.values") := by
  have hK := C.K
  subst hK
  exact .blt PySem.F.plainAttrs_dict PySem.F.slot_dict_values PySem.F.type_dict_values (.inr (.inr (.inl ⟨rfl, .inl ⟨kvs, h⟩⟩)))
theorem vals_d {d : Addr} {kvs : List (Key × V)} (h : H d = some (.dK kvs)) (q : ∀ p, H p = none → Q (.ref p) (upd H p (viewO "dict_values" p d))) : CV X (.builtin "dict.values") [.ref d] σ H Q := .of cr_vals ⟨d, kvs, rfl, h, q⟩
theorem sum_v {p d : Addr} {kvs : List (Key × V)} {ns : List Int} (C : Ctx P w K mg base k X W) (hp : H p = some (viewO "dict_values" p d)) (h : H d = some (.dK kvs)) (hn : kvs.map Prod.snd = ns.map V.int) (q : Q (.int ns.sum) H) : CV X (.builtin "sum") [.ref p] σ H Q := .of (cr_sumV C.c) ⟨p, d, kvs, ns, rfl, hp, h, hn, q⟩
/-! sorted by a key -/
theorem Ctx.lam1 {p : Str} {j : Nat} {E : XK} {Y : Cx} (C : Ctx P w K mg base k X W) (lc : LamCtx1 X p j E Y) : Ctx P w K mg base j Y (fun cls d _ H => E cls d H) := by
  obtain ⟨A, outer, s, H, scope, f, c', rfl, hr⟩ := lc
  exact ⟨C.p, C.w, C.K, C.m, C.b, hr, takesV_of rfl rfl rfl rfl, rfl⟩
/-- what the list must be that is sorted -/
def SortY (P : Program) (w : World) (K : PySem.W.Frag) (mg : Str → Option Value) (base : Heap) (j : Nat) (y : Str) (tb : Cx → TE) (σ : L2.St) (Q : VK) (x : V) (H0 : Hp) : Prop :=
  ∃ (l : Addr) (xs : List V) (ks : List PyData), x = .ref l ∧ H0 l = some (.lst xs) ∧ ks.length = xs.length ∧ PySem.W.AllAlike ks ∧ PySem.W.Sortable ks ∧ (∀ d ∈ ks, d.depth ≤ 8) ∧ TabH K H0 y ∧
    ∀ H1, Ext H0 H1 → TabH K H1 y →
      (∀ (i : Nat) (v : V) (d : PyData), xs[i]? = some v → ks[i]? = some d → ∀ H2, Same H1 H2 → ∀ Y, Ctx P w K mg base (j + 1) Y (fun _ _ _ _ => False) → tb Y (σ ++ [some v]) H2 fun z H3 => Same H2 H3 ∧ KeyV H3 z d) ∧
      ∀ r H4, H1 r = none → Same H1 H4 → H4 r = some (.lst (byKey xs ks)) → Q (.ref r) H4
theorem s_sortK {y p : Str} {j : Nat} {ta : TE} {tb : Cx → TE} (C : Ctx P w K mg base k X W) [tf : TabF K mg base (y, none)] (d : IsDef K y X) (m : X.mg "sorted" = none) (hj : j + 4 ≤ k)
    (q : ∀ Q' : VK, (∀ x H0, SortY P w K mg base j y tb σ Q x H0 → Q' x H0) → ta σ H Q') : tSortK X p ta tb σ H Q := by
  have C0 := C
  obtain ⟨rfl, rfl, rfl, rfl, rfl, hr, tk, hc⟩ := C
  refine ⟨hc, m, te_any (SortY X.prog X.w X.K X.mg X.base j y tb σ Q) q (fun x H0 h => ?_)⟩
  · obtain ⟨l, xs, ks, rfl, hl, hlen, hal, hsk, hd, hT, q⟩ := h
    refine ⟨l, xs, ks, (He.cT X.K (y, none)).1, (He.cT X.K (y, none)).2, [((He.cT X.K (y, none)).2, y ++ ".<locals>." ++ "<lambda>")], j, rfl, hl, hlen, hal, hsk, hd, ⟨tf.tb, d.co, ?_, ?_⟩, ?_, hr.mono hj, fun H1 eN T1 => ?_⟩
    · rw [d.qu]; exact List.mem_cons_self
    · intro p hp _
      rw [List.mem_singleton.mp hp, d.qu]
    · intro p hp
      rw [List.mem_singleton.mp hp]
      exact hT
    · obtain ⟨q1, q2⟩ := q H1 eN (T1 _ List.mem_cons_self)
      exact ⟨fun i v d hv hd H2 s2 Y lc => q1 i v d hv hd H2 s2 Y (C0.lam1 lc), q2⟩
end
end Vc

/-! x in a list whose items are compared by an own __eq__ -/
namespace VcGI
open PySem PySem.SeqAt GQ
open AutoSeq1 (wpAny_loadPart')
open MeetsSeq MeetsSeq2 MeetsSeq3 SeqRoads2
section
variable {prog : Program} {w : World} {A : Around} {R : Result → Shared → Prop}
/-- at each turn the list is read anew: N items, the i-th equal to x as e says -/
def InI (prog : Program) (w : World) (A : Around) (E : Value → Shared → Prop) (l : Addr) (x : Value) (N : Nat) (e : Nat → Bool) (I : Nat → Shared → Prop) : Prop :=
  ∀ i s, I i s → ∃ (items : Array Value) (n : Nat), s.heap.get? l = some { cls := .type "list", data := .seq items n } ∧ items.size = N ∧
    ∀ (h1 : i < items.size), wpAny (model prog w) A.in1 (eqBool items[i] x) (fun r s' => r = e i ∧ I (i + 1) s') E s
theorem in_loopG (l : Addr) (x : Value) (N : Nat) (e : Nat → Bool) (I : Nat → Shared → Prop) (hl : InI prog w A (fun e s' => R (.error e) s') l x N e I)
    (hit : ∀ i s, i < N → e i = true → I (i + 1) s → R (.ok (.ret (.bool true))) s) (miss : ∀ s, (∀ i, i < N → e i = false) → I N s → R (.ok (.ret (.bool false))) s) (k : Nat) :
    ∀ i : Nat, N - i = k → i ≤ N → (∀ j, j < i → e j = false) → ∀ s, I i s →
      wpAny (model prog w) A.in1 (Builtin.«list.__contains__.loop» ⟨[.ref l, x, rawInt i], []⟩) (FinOf prog w A R) (fun e s' => R (.error e) s') s := by
  induction k with
  | zero =>
    intro i hk hi no s h
    obtain ⟨items, n, hl1, hs1, _⟩ := hl _ _ h
    have hi' : i = N := by omega
    have hR : R (.ok (.ret (.bool false))) s := miss s (fun j hj => no j (by omega)) (hi' ▸ h)
    obtain ⟨hp, g, d, tk, os⟩ := s
    wp_walk using wpAny_loadPart' hl1
    have hi1 : items[((i : Nat) : Int).toNat]? = none := by simp; omega
    rw [hi1]
    wp_walk
    exact hR
  | succ k ih =>
    intro i hk hi no s h
    obtain ⟨items, n, hl1, hs1, turn⟩ := hl _ _ h
    have hlt : i < items.size := by omega
    have ht := turn hlt
    obtain ⟨hp, g, d, tk, os⟩ := s
    wp_walk using wpAny_loadPart' hl1
    have hi1 : items[((i : Nat) : Int).toNat]? = some items[i] := by simp [hlt]
    have hc : ((i : Int) + 1) = ((i + 1 : Nat) : Int) := by omega
    rw [hi1]
    refine wpAny_bind (wpAny_mono ht (fun r s2 h2 => ?_) fun _ _ x => x)
    obtain ⟨hr, h2⟩ := h2
    subst hr
    cases hb : e i with
    | true =>
      have hR := hit i s2 (by omega) hb h2
      obtain ⟨hp2, g2, d2, tk2, os2⟩ := s2
      wp_walk
      exact hR
    | false =>
      have hrec := ih (i + 1) (by omega) (by omega) (fun j hj => by
        by_cases q : j = i
        · rw [q]; exact hb
        · exact no j (by omega)) s2 h2
      obtain ⟨hp2, g2, d2, tk2, os2⟩ := s2
      wp_walk
      rw [hc]
      exact ⟨plainId_quiet plain_contains_loop _, codeAny_builtin entry_contains_loop (by
        rw [Around.under_plainId plain_contains_loop _]
        exact hrec)⟩
theorem list_inG (l : Addr) (x : Value) (N : Nat) (e : Nat → Bool) (I : Nat → Shared → Prop) (hl : InI prog w A (fun e s' => R (.error e) s') l x N e I)
    (hit : ∀ i s, i < N → e i = true → I (i + 1) s → R (.ok (.ret (.bool true))) s) (miss : ∀ s, (∀ i, i < N → e i = false) → I N s → R (.ok (.ret (.bool false))) s) {s : Shared} (h : I 0 s) :
    wpAny (model prog w) A.in1 (Builtin.«list.__contains__» ⟨[.ref l, x], []⟩) (FinOf prog w A R) (fun e s' => R (.error e) s') s := by
  obtain ⟨items, n, hl1, hs1, _⟩ := hl _ _ h
  have hrec := in_loopG (A := A) (R := R) l x N e I hl hit miss _ 0 rfl (Nat.zero_le _) (fun j hj => absurd hj (Nat.not_lt_zero _)) s h
  obtain ⟨hp, g, d, tk, os⟩ := s
  wp_walk using wpAny_loadPart' hl1
  exact ⟨plainId_quiet plain_contains_loop _, codeAny_builtin entry_contains_loop (by
    rw [Around.under_plainId plain_contains_loop _]
    exact hrec)⟩
end
end VcGI
namespace Vc
open PySem PySem.Spec PyProof.Rows L2
section
variable {P : Program} {w : World} {K : PySem.W.Frag} {mg : Str → Option Value} {base : Heap} {k n : Nat} {X : Cx} {W : WX} {σ : L2.St} {H : Hp} {Q : VK}
/-- an own == between two instances, whatever it answers -/
theorem rcB_ins {CX : CXT} {Cc f a b dx dy : Addr} {fd : FuncData} {ps : List Str} {sp : Sp} {E : XK} {fs gs : List (Str × V)} {r : Bool} (F : FnOk X.prog X.w X.K X.mg X.base CX n f fd ps sp)
    (hs : PySem.W.findIn X.K (.ref Cc) "__eq__" = some (some (.ref f))) (hf : PySem.W.isFn X.K (.ref f) = true) (hb : Binds X.K fd ps []) (hx : Passes CX X E)
    {A : Around} {pins : List (Addr × Obj)} {s : Shared} (sb : Sub X n A) (I : Inv X pins σ H s) (ha : H a = some (.ins Cc dx fs)) (hb' : H b = some (.ins Cc dy gs)) (hsp : sp [.ref a, .ref b] H (fun v H' => v = .bl r ∧ Same H H') E) :
    wpAny (model X.prog X.w) A (richCompare .Eq (.ref a) (.ref b)) (fun v s' => v = .bool r ∧ ∃ H', Inv X pins σ H' s' ∧ Same H H') X.xe s := by
  obtain ⟨mA, J, _⟩ := ins_get I.hok ha
  obtain ⟨mB, J', _⟩ := ins_get I.hok hb'
  obtain ⟨od, J, _⟩ := J.look
  obtain ⟨od', J', _⟩ := J'.look
  obtain ⟨m, hF⟩ := I.fr
  refine PySem.W.cmp_K (op := .Eq) (tb := .ref Cc) sb.room.units0 hF I.ok.mod.kin J J'.type (by simp [PySem.W.notFirst]) hs hf ?_
  have e0 : Env0 X.prog X.w X.K X.mg X.base A X.stack s H := by
    have e := I.env0
    exact ⟨by rw [sb.fr]; exact e.frames, e.mod, e.bs, e.bsz, e.funs, e.frf, e.hok, e.bare⟩
  have hl := F.len _ _ _ _ hsp
  have r2 : Vals [V.ref a, V.ref b] [Value.ref a, Value.ref b] := .cons rfl (.cons rfl .nil)
  refine wpAny_call (codeAny_mono (F.run A X.stack s H ⟨[.ref a, .ref b], []⟩ [.ref a, .ref b] [.ref a, .ref b] _ E sb.room e0 (by
    have := hb s [.ref a, .ref b] I.kIn (by simpa using hl)
    simpa using this) r2 hsp) fun rr s' hq => ?_)
  cases rr with
  | error e => exact hx pins σ H s e s' I hq
  | ok fl =>
    cases fl with
    | ret w =>
      obtain ⟨z, H', I', rz, ez, ex⟩ := I.after hq
      subst ez
      cases rz
      exact ⟨rfl, H', I', ex⟩
    | next => exact False.elim hq
    | brk => exact False.elim hq
    | cont => exact False.elim hq
/-- x in a list of instances that are compared by their own ==; x itself is none of them -/
theorem in_own {Cc f : Addr} {ps : List Str} {sp : Sp} (C : Ctx P w K mg base k X W) (M : Meth K Cc "__eq__" f) (F : FnS P w K mg base f n ps sp) (hn : n + 1 ≤ k) {l a dx : Addr} {fs : List (Str × V)} {xs : List Addr} (ha : H a = some (.ins Cc dx fs)) (hl : H l = some (.lst (xs.map V.ref))) (e : Nat → Bool)
    (hx : ∀ i b, xs[i]? = some b → b ≠ a ∧ (∃ dy gs, H b = some (.ins Cc dy gs)) ∧ ∀ H1, Same H H1 → sp [.ref b, .ref a] H1 (fun v H' => v = .bl (e i) ∧ Same H1 H') (fun _ _ _ => False))
    (q : ∀ H', Same H H' → Q (.bl ((List.range xs.length).any e)) H') : O2 X (compareOp .In) (.ref a) (.ref l) σ H Q := by
  obtain ⟨rfl, rfl, rfl, rfl, rfl, hr, tk, hc⟩ := C
  obtain ⟨fd, F, hb⟩ := F
  intro pins s v u I rx ry
  cases rx
  cases ry
  obtain ⟨z0, its0, n0, r0, e0⟩ := I.hok l _ hl
  have sb : Sub X n X.A.in1 := (show Sub X (n + 1) X.A from ⟨hr.mono hn, rfl⟩).in1
  show wpAny _ X.A ((do return Value.bool (← contains (.ref l) (.ref a))) : Sem Value) _ _ _
  refine wpAny_bind (wpAny_contains_slot ⟨_, e0, rfl⟩ PySem.F.slot_list_contains (wpAny_mono (GQ.call_here PySem.F.slot_list_contains ⟨_, e0, rfl⟩ PySem.F.entry_list_contains (PySem.F.args_list_contains_2 _ _)
    (VcGI.list_inG (R := wants (fun v s' => v = .bool ((List.range xs.length).any e) ∧ LoopI X pins σ H s') X.xe) l (.ref a) xs.length e (fun _ s' => LoopI X pins σ H s') (fun i s' li => ?_) (fun i s' hi ei li => ?_) (fun s' no li => ?_) ⟨H, I, fun _ _ h => h⟩)) (fun v s' hv => ?_) fun _ _ x => x))
  · obtain ⟨H1, I1, s1⟩ := li
    obtain ⟨z, its, nn, rr, ee⟩ := I1.hok l _ (s1 _ _ hl)
    refine ⟨its.toArray, nn, ee, by rw [List.size_toArray, ← rr.length, List.length_map], fun h1 => ?_⟩
    have hi : i < xs.length := by rw [List.size_toArray, ← rr.length, List.length_map] at h1; exact h1
    have gx : (xs.map V.ref)[i]? = some (.ref xs[i]) := by rw [List.getElem?_map, List.getElem?_eq_getElem hi]; rfl
    obtain ⟨u, hu, ru⟩ := rr.get gx
    obtain rfl : u = Value.ref xs[i] := ru
    have hit : its.toArray[i] = Value.ref xs[i] := by
      have : its[i]? = some its.toArray[i] := by simp [List.getElem?_eq_getElem (show i < its.length by simpa using h1)]
      rw [hu] at this
      exact (Option.some.inj this).symm
    rw [hit]
    obtain ⟨ne, ⟨dy, gs, hy⟩, hsp⟩ := hx i xs[i] (List.getElem?_eq_getElem hi)
    refine GQ.eqBool_refG ne (wpAny_mono (rcB_ins F M.at_ M.fn hb passLV sb I1 (s1 _ _ hy) (s1 _ _ ha) (hsp H1 s1)) (fun v s2 hv => ?_) fun _ _ x => x)
    obtain ⟨rfl, H2, I2, s2⟩ := hv
    exact ⟨e i, rfl, rfl, H2, I2, fun b o eb => s2 _ _ (s1 _ _ eb)⟩
  · exact ⟨by rw [show (List.range xs.length).any e = true from List.any_eq_true.mpr ⟨i, List.mem_range.mpr hi, ei⟩], li⟩
  · exact ⟨by rw [show (List.range xs.length).any e = false from List.any_eq_false.mpr fun i hi => by simpa using no i (List.mem_range.mp hi)], li⟩
  · obtain ⟨rfl, H1, I1, s1⟩ := hv
    exact wpAny_truthy_bool (wpAny_pure ⟨.bl _, H1, I1, rfl, q H1 s1⟩)
end
end Vc

namespace Vc
open PySem PySem.Spec PyProof.Rows L2
/-! ### clear, list(dict), sorted(dict), == of dicts in any order -/
section
variable {P : Program} {w : World} {K : PySem.W.Frag} {mg : Str → Option Value} {base : Heap} {k : Nat} {X : Cx} {W : WX} {σ : L2.St} {H : Hp} {Q : VK}
theorem mth_lclear {p : Addr} {xs : List V} (C : Ctx P w K mg base k X W) (h : SqL K H p xs) : Mth X "clear" (.ref p) H (.builtin "list.clear") := by
  have hK := C.K
  subst hK
  exact .blt PySem.F.plainAttrs_list PySem.F.slot_list_clear PySem.F.type_list_clear (.inl ⟨rfl, xs, h⟩)
theorem lclear_m {l : Addr} {xs : List V} (h : H l = some (.lst xs)) (q : Q .non (upd H l (.lst []))) : CV X (.builtin "list.clear") [.ref l] σ H Q := .ofM mt_clear ⟨l, xs, rfl, rfl, h, q⟩
theorem mth_dclear {d : Addr} {kvs : List (Key × V)} (C : Ctx P w K mg base k X W) (h : H d = some (.dK kvs)) : Mth X "clear" (.ref d) H (.builtin "dict.clear") := by
  have hK := C.K
  subst hK
  exact .blt PySem.F.plainAttrs_dict PySem.F.slot_dict_clear PySem.F.type_dict_clear (.inr (.inr (.inl ⟨rfl, .inl ⟨kvs, h⟩⟩)))
theorem dclear_m {d : Addr} {kvs : List (Key × V)} (h : H d = some (.dK kvs)) (q : Q .non (upd H d (.dK []))) : CV X (.builtin "dict.clear") [.ref d] σ H Q := .ofM mtd_clear ⟨d, kvs, rfl, rfl, h, q⟩
theorem list_d {d : Addr} {kvs : List (Key × V)} (C : Ctx P w K mg base k X W) (h : H d = some (.dK kvs)) (q : ∀ p, H p = none → Q (.ref p) (upd H p (.lst (kvs.map fun kv => kV kv.1)))) : CV X (.type "list") [.ref d] σ H Q := .of (call_listD C.c) ⟨d, kvs, rfl, .inl h, q⟩
theorem sorted_d {d : Addr} {kvs : List (Key × V)} {ks : List Str} (C : Ctx P w K mg base k X W) (h : H d = some (.dK kvs)) (hk : kvs.map (·.1) = ks.map Sum.inr) (hl : ks.length < 64)
    (q : ∀ ys p, ys.Perm ks → sortedS ys = true → H p = none → Q (.ref p) (upd H p (.lst (ys.map V.str)))) : CV X (.builtin "sorted") [.ref d] σ H Q := .of (call_sortedD C.c) ⟨d, kvs, ks, rfl, .inl h, hk, hl, q⟩
theorem eq_dG {a b : Addr} {ks ls : List (Key × V)} (C : Ctx P w K mg base k X W) (ha : H a = some (.dK ks)) (hb : H b = some (.dK ls)) (hl : ks.length = ls.length) (h : ∀ p ∈ ks, L2.valV ls p.1 = some p.2 ∧ L2.flatB p.2 = true) (q : Q (.bl true) H) : O2 X (compareOp .Eq) (.ref a) (.ref b) σ H Q :=
  .of (op_eq_dictA C.r.units0) ⟨a, b, ks, ls, rfl, rfl, ha, hb, hl, h, q⟩
theorem ne_dG {a b : Addr} {ks ls : List (Key × V)} (C : Ctx P w K mg base k X W) (ha : H a = some (.dK ks)) (hb : H b = some (.dK ls)) (hl : ks.length = ls.length) (h : ∀ p ∈ ks, L2.valV ls p.1 = some p.2 ∧ L2.flatB p.2 = true) (q : Q (.bl false) H) : O2 X (compareOp .NotEq) (.ref a) (.ref b) σ H Q :=
  .of (op_ne_dictA C.r.units0) ⟨a, b, ks, ls, rfl, rfl, ha, hb, hl, h, q⟩
end
end Vc

namespace Vc
open PySem PySem.Spec PyProof.Rows L2
/-! ### set(a list of different ints), its len; text.index -/
section
variable {P : Program} {w : World} {K : PySem.W.Frag} {mg : Str → Option Value} {base : Heap} {k : Nat} {X : Cx} {W : WX} {σ : L2.St} {H : Hp} {Q : VK}
def SetN (a : Addr) (n : Nat) : HO := .ext fun h => ∃ (o : Obj) (es : Array (Int × Value)) (ep : Nat) (t : SetTable), h.get? a = some o ∧ o.ExactSet ∧ o.data = .set es ep t ∧ t.fits es.size = true ∧ es.size = n
def rSetN (K : PySem.W.Frag) : List V → Hp → VK → Prop := fun xs H Q => ∃ (l : Addr) (ns : List Int), xs = [.ref l] ∧ SqL K H l (ns.map V.int) ∧ ns.Nodup ∧ ns.length ≤ 4000 ∧ ∀ p, H p = none → Q (.ref p) (upd H p (SetN p ns.length))
theorem cr_setN (hc : X.calm = true) : CallR X (.type "set") (rSetN X.K) := by
  intro pins s σ H xs us Q I r q
  obtain ⟨l, ns, rfl, hq, hnd, hl, q⟩ := q
  obtain ⟨u, eu, rx⟩ := vals1 r
  subst eu
  cases rx
  obtain ⟨its, r, pl, hz⟩ := I.list hq
  have hlen : its.toArray.size = ns.length := by rw [List.size_toArray, ← r.length, List.length_map]
  refine call_set_list (I.ok.hd hc) pl.isList (by simpa using RZ.intsAre_vals r) (by rw [hlen]; unfold scanBound; omega) fun h' tk hS hk => ?_
  rw [hlen, RZ.firstMet_nodup hnd ns.length (Nat.le_refl _), List.take_length] at hS
  obtain ⟨o, es, ep, t, ho, hex, hd, _, _, _, hf, hn⟩ := hS
  refine ⟨.ref s.heap.objs.size, upd H s.heap.objs.size (SetN s.heap.objs.size ns.length), I.laid (t' := tk) (fun b u e => hk b u (Heap.lt_size e) e) (Nat.le_refl _) (show ObjOk X.prog X.w _ _ _ (SetN s.heap.objs.size ns.length) from ?_), rfl, q _ (I.hok.fresh (Nat.le_refl _))⟩
  exact ⟨⟨o, es, ep, t, ho, hex, hd, hf, hn⟩, ⟨o, ho⟩, fun h1 h2 p k => by
    obtain ⟨o, es, ep, t, ho, r⟩ := p
    exact ⟨o, es, ep, t, k _ ho, r⟩⟩
theorem set_n {l : Addr} {ns : List Int} (C : Ctx P w K mg base k X W) (h : SqL K H l (ns.map V.int)) (nd : ns.Nodup) (hl : ns.length ≤ 4000) (q : ∀ p, H p = none → Q (.ref p) (upd H p (SetN p ns.length))) : CV X (.type "set") [.ref l] σ H Q := by
  have hK := C.K
  subst hK
  exact .of (cr_setN C.c) ⟨l, ns, rfl, h, nd, hl, q⟩
def rLenSetN : List V → Hp → VK → Prop := fun xs H Q => ∃ (p : Addr) (n : Nat), xs = [.ref p] ∧ H p = some (SetN p n) ∧ n ≤ 4000 ∧ Q (.int n) H
theorem cr_lenSetN : CallR X (.builtin "len") rLenSetN := by
  intro pins s σ H xs us Q I r q
  obtain ⟨p, n, rfl, hp, hl, q⟩ := q
  obtain ⟨u, eu, rx⟩ := vals1 r
  subst eu
  cases rx
  obtain ⟨⟨o, es, ep, t, ho, hex, hd, hf, hn⟩, _⟩ := (show ObjOk X.prog X.w H s.heap p (SetN p n) from I.hok p _ hp)
  exact call_len_set ho hex hd hf (by rw [hn]; omega) ⟨.int n, H, I.tok _, ⟨_, by rw [hn]⟩, q⟩
theorem len_setN {p : Addr} {n : Nat} (h : H p = some (SetN p n)) (hl : n ≤ 4000) (q : Q (.int n) H) : CV X (.builtin "len") [.ref p] σ H Q := .of cr_lenSetN ⟨p, n, rfl, h, hl, q⟩
theorem index_s {a b : Str} {i : Nat} {rest : List Nat} (h : Builtin.Str.occurrences a b 0 a.length 1 = i :: rest) (q : Q (.int (i : Nat)) H) : CV X (.builtin "str.index") [.str a, .str b] σ H Q := .ofR mt_sindex ⟨a, b, i, rest, rfl, rfl, h, q⟩
theorem mth_sindex {x : Str} : Mth X "index" (.str x) H (.builtin "str.index") := .blt PySem.F.plainAttrs_str PySem.F.slot_str_index PySem.F.type_str_index (show "str" = "str" from rfl)
end
end Vc

namespace Vc
open PySem PySem.Spec PyProof.Rows L2 PySem.W
/-! ### min of a list of pairs of ints -/
def ltP (p q : Int × Int) : Bool := decide (p.1 < q.1 ∨ (p.1 = q.1 ∧ p.2 < q.2))
def dPr (p : Int × Int) : PyData := .tuple [.int p.1, .int p.2]
theorem argBest_le (bt : Nat → Nat → Bool) : ∀ k, argBest bt k ≤ k
  | 0 => Nat.le_refl _
  | k + 1 => by
    have := argBest_le bt k
    show (if bt (k + 1) (argBest bt k) then k + 1 else argBest bt k) ≤ k + 1
    split <;> omega
theorem argBest_congr {b c : Nat → Nat → Bool} : ∀ k, (∀ i j, i ≤ k → j ≤ k → b i j = c i j) → argBest b k = argBest c k
  | 0, _ => rfl
  | k + 1, h => by
    have ih := argBest_congr k fun i j hi hj => h i j (by omega) (by omega)
    have := argBest_le c k
    show (if b (k + 1) (argBest b k) then k + 1 else argBest b k) = (if c (k + 1) (argBest c k) then k + 1 else argBest c k)
    rw [ih, h (k + 1) (argBest c k) (Nat.le_refl _) (by omega)]
theorem argBest_ltP (f : Nat → Int × Int) : ∀ k, ∀ j, j ≤ k → ltP (f j) (f (argBest (fun i j => ltP (f i) (f j)) k)) = false
  | 0, j, h => by
    have : j = 0 := by omega
    subst this
    show ltP (f 0) (f 0) = false
    unfold ltP
    exact decide_eq_false (by omega)
  | k + 1, j, h => by
    have ih := argBest_ltP f k
    show ltP (f j) (f (if ltP (f (k + 1)) (f (argBest (fun i j => ltP (f i) (f j)) k)) then k + 1 else argBest (fun i j => ltP (f i) (f j)) k)) = false
    generalize argBest (fun i j => ltP (f i) (f j)) k = m at ih ⊢
    cases e : ltP (f (k + 1)) (f m) with
    | true =>
      rw [if_pos rfl]
      have e1 := of_decide_eq_true e
      by_cases hj : j ≤ k
      · have e2 := of_decide_eq_false (ih j hj)
        exact decide_eq_false (by omega)
      · have : j = k + 1 := by omega
        subst this
        exact decide_eq_false (by omega)
    | false =>
      rw [if_neg (by decide)]
      by_cases hj : j ≤ k
      · exact ih j hj
      · have : j = k + 1 := by omega
        subst this
        exact e
def rMinP (K : PySem.W.Frag) : List V → Hp → VK → Prop := fun vs H Q => ∃ (a : Addr) (xs : List V) (ps : List (Int × Int)), vs = [.ref a] ∧ SqL K H a xs ∧ DpAll K H xs (ps.map dPr) ∧ ps ≠ [] ∧
  ∀ (i : Nat) x p, xs[i]? = some x → ps[i]? = some p → (∀ q ∈ ps, p.1 < q.1 ∨ (p.1 = q.1 ∧ p.2 ≤ q.2)) → Q x H
theorem depth_prs : ∀ ps : List (Int × Int), PyData.depthAll (ps.map dPr) ≤ 4
  | [] => by simp [PyData.depthAll]
  | p :: ps => by
    have := depth_prs ps
    simp only [List.map_cons, PyData.depthAll, PyData.depth, dPr] at *
    omega
theorem alike_prs (ps : List (Int × Int)) : AlikeAll (ps.map dPr) := by
  refine ⟨fun x hx y hy => ?_, fun x hx => ?_⟩
  · obtain ⟨p, _, rfl⟩ := List.mem_map.mp hx
    obtain ⟨q, _, rfl⟩ := List.mem_map.mp hy
    rfl
  · obtain ⟨p, _, rfl⟩ := List.mem_map.mp hx
    exact fun z => nomatch z
theorem cr_minP {X : Cx} (hc : X.calm = true) (hu : X.A.units + 65 < cLine) : CallR X (.builtin "min") (rMinP X.K) := by
  intro pins s σ H vs us Q I r h
  obtain ⟨a, xs, ps, rfl, hs, hd, hne, q⟩ := h
  obtain ⟨its, rv, hl, _⟩ := I.list hs
  rw [Vals.ref1 r]
  obtain ⟨as, hr⟩ := Dp.readsAll I (ps.map dPr) xs its hd rv
  have hr' : ReadsAll s.heap its.toArray.toList (ps.map dPr) as := hr
  have hn : its.toArray.size = ps.length := by rw [readsAll_len hr', List.length_map]
  have hp : 0 < ps.length := List.length_pos_iff.mpr hne
  have dp := depth_prs ps
  refine call_min_walkH (iter_listW (A := X.A.in1) (I.ok.hd hc) hl.isList fun s₂ e W st hfp hw hk => ?_)
  refine ⟨_, _, _, _, _, _, _, s.heap, _, rfl, W, st, hfp, by omega, hw, hk, cmpIn_lt (A := X.A.in1) hr' (alike_prs ps) (by show X.A.units + 1 + _ < _; omega), fun v s' hP m => ?_⟩
  obtain ⟨h', tk, rfl, hk'⟩ := moved_old e rfl m
  have eb : argBest (fun i j => dataLt ((ps.map dPr).getD i .none) ((ps.map dPr).getD j .none)) (its.toArray.size - 1) = argBest (fun i j => ltP (ps.getD i (0, 0)) (ps.getD j (0, 0))) (its.toArray.size - 1) := by
    refine argBest_congr _ fun i j hi hj => ?_
    have gt : ∀ i, i ≤ its.toArray.size - 1 → (ps.map dPr).getD i .none = dPr (ps.getD i (0, 0)) := fun i hi => by
      have hi' : i < ps.length := by omega
      rw [List.getD_eq_getElem?_getD, List.getD_eq_getElem?_getD, List.getElem?_map, List.getElem?_eq_getElem hi']
      rfl
    rw [gt i hi, gt j hj]
    exact dataLt_ii _ _ _ _
  rw [eb] at hP
  have key := argBest_ltP (fun i => ps.getD i (0, 0)) (its.toArray.size - 1)
  have kl := argBest_le (fun i j => ltP (ps.getD i (0, 0)) (ps.getD j (0, 0))) (its.toArray.size - 1)
  revert hP key kl
  generalize argBest (fun i j => ltP (ps.getD i (0, 0)) (ps.getD j (0, 0))) (its.toArray.size - 1) = b
  intro hP key kl
  have hb : b < ps.length := by omega
  have hP' : its[b]? = some v := by rw [← hP]; simp
  have bx : b < xs.length := by rw [rv.length]; exact (List.getElem?_eq_some_iff.mp hP').1
  obtain ⟨u, hu', rx⟩ := Vals.get rv (List.getElem?_eq_getElem bx)
  obtain rfl : u = v := by rw [hP'] at hu'; exact (Option.some.inj hu').symm
  have hx : xs[b]? = some xs[b] := List.getElem?_eq_getElem bx
  refine ⟨xs[b], H, I.kept (t' := tk) hk', rx, q b xs[b] ps[b] hx (List.getElem?_eq_getElem hb) fun z hz => ?_⟩
  obtain ⟨j, hj, ez⟩ := List.getElem_of_mem hz
  have := key j (by omega)
  simp only [List.getD_eq_getElem?_getD, List.getElem?_eq_getElem hb, List.getElem?_eq_getElem hj, Option.getD_some, ez] at this
  have := of_decide_eq_false this
  omega
section
variable {P : Program} {w : World} {K : PySem.W.Frag} {mg : Str → Option Value} {base : Heap} {k : Nat} {X : Cx} {W : WX} {σ : L2.St} {H : Hp} {Q : VK}
theorem min_pr {a : Addr} {xs : List V} {ps : List (Int × Int)} (C : Ctx P w K mg base k X W) (h : SqL K H a xs) (hd : DpAll K H xs (ps.map dPr)) (hne : ps ≠ [])
    (q : ∀ (i : Nat) x p, xs[i]? = some x → ps[i]? = some p → (∀ q ∈ ps, p.1 < q.1 ∨ (p.1 = q.1 ∧ p.2 ≤ q.2)) → Q x H) : CV X (.builtin "min") [.ref a] σ H Q := by
  have hK := C.K
  subst hK
  exact .of (cr_minP C.c (by have := C.r.un; omega)) ⟨a, xs, ps, rfl, h, hd, hne, q⟩
end
end Vc

namespace Vc
open PySem PySem.Spec PyProof.Rows L2

/-! ### a comprehension over a dict's keys -/
section
variable {P : Program} {w : World} {K : PySem.W.Frag} {mg : Str → Option Value} {base : Heap} {k : Nat} {X Y : Cx} {W : WX} {σ : L2.St} {H : Hp} {Q : VK}
theorem s_lcD {g : TG} {tt : TT} {te0 te : TE} {vs : List Nat} {d : Addr} {kvs : List (Key × V)} (C : Ctx P w K mg base k X W) (hd : H d = some (.dK kvs))
    (q : ∀ od, te0 σ (upd H d (.frz od (.dK kvs))) fun x H1 => IterV X x σ H1 fun J H2 => LcT J g tt te vs σ H2 fun v H' => H' d = some (.frz od (.dK kvs)) ∧ Q v (upd H' d (.dK kvs))) : tLcC X (iAny X te0) g tt te vs σ H Q :=
  ⟨C.c, .inr ⟨d, _, hd, trivial, q⟩⟩
theorem lc_keysF {d : Addr} {o : Obj} {kvs : List (Key × V)} {g : TG} {tt : TT} {te : TE} {vs : List Nat} (p : Key → Bool) (hz : kvs.length ≤ sizeLine) (h : H d = some (.frz o (.dK kvs)))
    (hs : ∀ (k : Key) (v : V) (H' : Hp) (R : V → Hp → Prop) (N : Hp → Prop), (k, v) ∈ kvs → Same H H' → (∀ H4, p k = true → Same H' H4 → R (kV k) H4) → (∀ H4, p k = false → Same H' H4 → N H4) →
      g (kV k) (wipe σ vs) H' fun σ2 H2 => wipe σ2 vs = wipe σ vs ∧ tt σ2 H2 fun b H3 => if b = true then te σ2 H3 R else N H3)
    (q : ∀ D H', H D = none → H' D = some (.lst ((kvs.filter fun e => p e.1).map fun e => kV e.1)) → Same H H' → Q (.ref D) H') : LcT (Itk d o kvs) g tt te vs σ H Q := by
  intro D hD
  have lenT : ∀ i, i ≤ kvs.length → (((kvs.take i).filter fun e => p e.1).map fun e => kV e.1).length ≤ i := fun i hi => by
    rw [List.length_map]
    exact Nat.le_trans (List.length_filter_le _ _) (by rw [List.length_take]; exact Nat.min_le_left _ _)
  refine ⟨fun i m H' => m = kvs.length - i ∧ Same H H' ∧ i ≤ kvs.length ∧ H' D = some (.lst (((kvs.take i).filter fun e => p e.1).map fun e => kV e.1)), ⟨_, rfl, same_upd hD, Nat.zero_le _, upd_same⟩, fun i m H' h4 => ?_⟩
  obtain ⟨em, s, il, hx⟩ := h4
  have hd := s _ _ h
  by_cases hi : i < kvs.length
  · refine .inr ⟨⟨hd, hi⟩, fun H'' => Same H H'' ∧ H'' D = some (.lst (((kvs.take (i + 1)).filter fun e => p e.1).map fun e => kV e.1)), fun H'' h2 => ⟨kvs.length - (i + 1), by omega, rfl, h2.1, hi, h2.2⟩, fun x H2 hy => ?_⟩
    obtain ⟨rfl, k, v, e2, rfl⟩ := hy
    have et : kvs.take (i + 1) = kvs.take i ++ [(k, v)] := by
      rw [List.take_succ, e2]
      rfl
    refine hs k v H2 _ _ (List.mem_of_getElem? e2) s (fun H4 pt s4 => ⟨_, s4 _ _ hx, Nat.lt_of_le_of_lt (lenT i (Nat.le_of_lt hi)) (Nat.lt_of_lt_of_le hi hz), ?_, ?_⟩) (fun H4 pf s4 => ⟨s.trans s4, ?_⟩)
    · intro b o eb
      rw [upd_ne (ne_of_none eb hD)]
      exact s4 _ _ (s _ _ eb)
    · rw [et, List.filter_append, List.map_append]
      simp only [List.filter_cons, pt, if_true, List.filter_nil, List.map_cons, List.map_nil]
      exact upd_same
    · rw [et, List.filter_append, List.map_append]
      have e0 : ([(k, v)].filter fun e => p e.1) = [] := by
        rw [List.filter_cons, if_neg (by rw [pf]; exact Bool.false_ne_true)]
        rfl
      rw [e0, List.map_nil, List.append_nil]
      exact s4 _ _ hx
  · refine .inl ⟨⟨hd, by omega⟩, q D H' hD ?_ s⟩
    rw [List.take_of_length_le (by omega)] at hx
    exact hx
end
end Vc

namespace Vc
open PySem PySem.Spec PyProof.Rows L2

/-! ### the head's look at a written list of addresses -/
def obsL (al : List Addr) (fa : List Fact) (fn : List DV) (tf : List He.Defn) (g : Addr → Option Obj) : AlV × Bool := (obsV fa fn (He.frT g al), tabsV g tf (He.frT g al))
theorem saysT_ofL {al : List Addr} {fa : List Fact} {fn : List DV} {tf : List He.Defn} {h : Heap} (e : obsL al fa fn tf h.get? = (valV fn, true)) : SaysT fa fn tf h (He.frT h.get? al) := by
  have e1 := congrArg (fun z : AlV × Bool => z.1) e
  have e2 : tabsV h.get? tf (He.frT h.get? al) = true := congrArg (fun z : AlV × Bool => z.2) e
  have at_ : ∀ p ∈ tf, PySem.W.codeHdIn (He.frT h.get? al) (He.cT (He.frT h.get? al) p).1 (He.cT (He.frT h.get? al) p).2 = true ∧ ∃ o, h.get? (He.cT (He.frT h.get? al) p).2 = some o ∧ He.emptyTab o = true := by
    intro p hp
    obtain ⟨a, b⟩ := He.ba (List.all_eq_true.mp e2 p hp)
    refine ⟨a, ?_⟩
    split at b
    · rename_i o q
      exact ⟨o, q, b⟩
    · cases b
  refine ⟨e1, fun p hp => (at_ p hp).1, fun p hp => ?_, fun p hp => ?_⟩
  · obtain ⟨_, o, q, z⟩ := at_ p hp
    exact He.frT_none q z
  · obtain ⟨_, o, q, z⟩ := at_ p hp
    rw [q, He.emptyTab_eq z]
def hookL (al : List Addr) (fa : List Fact) (fn : List DV) (tf : List He.Defn) : PySem.W.Hook where
  α := AlV × Bool
  obs := fun s => obsL al fa fn tf s.heap.get?
  val := fun _ => (valV fn, true)
  says := fun _ h => ∃ K : PySem.W.Frag, K.In h ∧ SaysT fa fn tf h K
  of := fun _ _ e => ⟨_, He.frT_in, saysT_ofL e⟩
  keeps := fun _ _ _ ⟨K, hK, c⟩ k => ⟨K, PySem.W.Frag.In.keeps hK k, ⟨c.v, c.hd, c.out, fun p hp => k _ _ (c.empty p hp)⟩⟩
theorem obsL_eq {al : List Addr} {fa : List Fact} {fn : List DV} {tf : List He.Defn} {g : Addr → Option Obj} {s : Shared} (h : ∀ a, g a = s.heap.get? a) : obsL al fa fn tf g = (hookL al fa fn tf).obs s := by
  have e : g = s.heap.get? := funext h
  rw [e] <;> rfl

def obsLV (al : List Addr) (fa : List Fact) (fn : List DV) (g : Addr → Option Obj) : AlV := obsV fa fn (He.frG g al)
def hookLV (al : List Addr) (fa : List Fact) (fn : List DV) : PySem.W.Hook where
  α := AlV
  obs := fun s => obsLV al fa fn s.heap.get?
  val := fun _ => valV fn
  says := fun _ h => ∃ K : PySem.W.Frag, K.In h ∧ SaysV fa fn K
  of := fun _ _ e => ⟨_, He.frG_in, e⟩
  keeps := fun _ _ _ ⟨K, hK, c⟩ k => ⟨K, PySem.W.Frag.In.keeps hK k, c⟩
theorem obsLV_eq {al : List Addr} {fa : List Fact} {fn : List DV} {g : Addr → Option Obj} {s : Shared} (h : ∀ a, g a = s.heap.get? a) : obsLV al fa fn g = (hookLV al fa fn).obs s := by
  have e : g = s.heap.get? := funext h
  rw [e] <;> rfl
end Vc

namespace Vc
open PySem PySem.Spec PyProof.Rows L2 PySem.W
/-! ### max of a list of triples of ints, of a list of ints; tuples cut; shifts -/
def dTr (p : Int × Int × Int) : PyData := .tuple [.int p.1, .int p.2.1, .int p.2.2]
def gtT (p q : Int × Int × Int) : Bool := decide (q.1 < p.1 ∨ (q.1 = p.1 ∧ (q.2.1 < p.2.1 ∨ (q.2.1 = p.2.1 ∧ q.2.2 < p.2.2))))
theorem dataLt_iii (x y z x' y' z' : Int) : dataLt (.tuple [.int x, .int y, .int z]) (.tuple [.int x', .int y', .int z']) = decide (x < x' ∨ (x = x' ∧ (y < y' ∨ (y = y' ∧ z < z')))) := by
  rw [dataLt_tuple, dataLt_cons (by simp [alike]), dataLt_cons (by simp [alike]), dataLt_cons (by simp [alike])]
  have e : PyProof.Rows.lexLt itemOrd (keyToksAll []) (keyToksAll []) = false := lex_irrefl _
  rw [e, dataLt_int, dataLt_int, dataLt_int]
  simp only [PyData.eqv, beq_iff_eq]
  by_cases h1 : x = x' <;> by_cases h2 : y = y' <;> by_cases h3 : z = z' <;> simp [h1, h2, h3]
theorem argBest_gtT (f : Nat → Int × Int × Int) : ∀ k, ∀ j, j ≤ k → gtT (f j) (f (argBest (fun i j => gtT (f i) (f j)) k)) = false
  | 0, j, h => by
    have : j = 0 := by omega
    subst this
    show gtT (f 0) (f 0) = false
    unfold gtT
    exact decide_eq_false (by omega)
  | k + 1, j, h => by
    have ih := argBest_gtT f k
    show gtT (f j) (f (if gtT (f (k + 1)) (f (argBest (fun i j => gtT (f i) (f j)) k)) then k + 1 else argBest (fun i j => gtT (f i) (f j)) k)) = false
    generalize argBest (fun i j => gtT (f i) (f j)) k = m at ih ⊢
    cases e : gtT (f (k + 1)) (f m) with
    | true =>
      rw [if_pos rfl]
      have e1 := of_decide_eq_true e
      by_cases hj : j ≤ k
      · have e2 := of_decide_eq_false (ih j hj)
        exact decide_eq_false (by omega)
      · have : j = k + 1 := by omega
        subst this
        exact decide_eq_false (by omega)
    | false =>
      rw [if_neg (by decide)]
      by_cases hj : j ≤ k
      · exact ih j hj
      · have : j = k + 1 := by omega
        subst this
        exact e
def rMaxT (K : PySem.W.Frag) : List V → Hp → VK → Prop := fun vs H Q => ∃ (a : Addr) (xs : List V) (ps : List (Int × Int × Int)), vs = [.ref a] ∧ SqL K H a xs ∧ DpAll K H xs (ps.map dTr) ∧ ps ≠ [] ∧
  ∀ (i : Nat) x p, xs[i]? = some x → ps[i]? = some p → (∀ q ∈ ps, q.1 ≤ p.1) → Q x H
theorem depth_trs : ∀ ps : List (Int × Int × Int), PyData.depthAll (ps.map dTr) ≤ 4
  | [] => by simp [PyData.depthAll]
  | p :: ps => by
    have := depth_trs ps
    simp only [List.map_cons, PyData.depthAll, PyData.depth, dTr] at *
    omega
theorem alike_trs (ps : List (Int × Int × Int)) : AlikeAll (ps.map dTr) := by
  refine ⟨fun x hx y hy => ?_, fun x hx => ?_⟩
  · obtain ⟨p, _, rfl⟩ := List.mem_map.mp hx
    obtain ⟨q, _, rfl⟩ := List.mem_map.mp hy
    rfl
  · obtain ⟨p, _, rfl⟩ := List.mem_map.mp hx
    exact fun z => nomatch z
theorem cr_maxT {X : Cx} (hc : X.calm = true) (hu : X.A.units + 65 < cLine) : CallR X (.builtin "max") (rMaxT X.K) := by
  intro pins s σ H vs us Q I r h
  obtain ⟨a, xs, ps, rfl, hs, hd, hne, q⟩ := h
  obtain ⟨its, rv, hl, _⟩ := I.list hs
  rw [Vals.ref1 r]
  obtain ⟨as, hr⟩ := Dp.readsAll I (ps.map dTr) xs its hd rv
  have hr' : ReadsAll s.heap its.toArray.toList (ps.map dTr) as := hr
  have hn : its.toArray.size = ps.length := by rw [readsAll_len hr', List.length_map]
  have hp : 0 < ps.length := List.length_pos_iff.mpr hne
  have dp := depth_trs ps
  refine call_max_walkH (iter_listW (A := X.A.in1) (I.ok.hd hc) hl.isList fun s₂ e W st hfp hw hk => ?_)
  refine ⟨_, _, _, _, _, _, _, s.heap, _, rfl, W, st, hfp, by omega, hw, hk, cmpIn_gt (A := X.A.in1) hr' (alike_trs ps) (by show X.A.units + 1 + _ < _; omega), fun v s' hP m => ?_⟩
  obtain ⟨h', tk, rfl, hk'⟩ := moved_old e rfl m
  have eb : argBest (fun i j => dataLt ((ps.map dTr).getD j .none) ((ps.map dTr).getD i .none)) (its.toArray.size - 1) = argBest (fun i j => gtT (ps.getD i (0, 0, 0)) (ps.getD j (0, 0, 0))) (its.toArray.size - 1) := by
    refine argBest_congr _ fun i j hi hj => ?_
    have gt : ∀ i, i ≤ its.toArray.size - 1 → (ps.map dTr).getD i .none = dTr (ps.getD i (0, 0, 0)) := fun i hi => by
      have hi' : i < ps.length := by omega
      rw [List.getD_eq_getElem?_getD, List.getD_eq_getElem?_getD, List.getElem?_map, List.getElem?_eq_getElem hi']
      rfl
    rw [gt i hi, gt j hj]
    exact dataLt_iii _ _ _ _ _ _
  rw [eb] at hP
  have key := argBest_gtT (fun i => ps.getD i (0, 0, 0)) (its.toArray.size - 1)
  have kl := argBest_le (fun i j => gtT (ps.getD i (0, 0, 0)) (ps.getD j (0, 0, 0))) (its.toArray.size - 1)
  revert hP key kl
  generalize argBest (fun i j => gtT (ps.getD i (0, 0, 0)) (ps.getD j (0, 0, 0))) (its.toArray.size - 1) = b
  intro hP key kl
  have hb : b < ps.length := by omega
  have hP' : its[b]? = some v := by rw [← hP]; simp
  have bx : b < xs.length := by rw [rv.length]; exact (List.getElem?_eq_some_iff.mp hP').1
  obtain ⟨u, hu', rx⟩ := Vals.get rv (List.getElem?_eq_getElem bx)
  obtain rfl : u = v := by rw [hP'] at hu'; exact (Option.some.inj hu').symm
  have hx : xs[b]? = some xs[b] := List.getElem?_eq_getElem bx
  refine ⟨xs[b], H, I.kept (t' := tk) hk', rx, q b xs[b] ps[b] hx (List.getElem?_eq_getElem hb) fun z hz => ?_⟩
  obtain ⟨j, hj, ez⟩ := List.getElem_of_mem hz
  have := key j (by omega)
  simp only [List.getD_eq_getElem?_getD, List.getElem?_eq_getElem hb, List.getElem?_eq_getElem hj, Option.getD_some, ez] at this
  have := of_decide_eq_false this
  omega
section
variable {P : Program} {w : World} {K : PySem.W.Frag} {mg : Str → Option Value} {base : Heap} {k : Nat} {X : Cx} {W : WX} {σ : L2.St} {H : Hp} {Q : VK}
theorem max_tr {a : Addr} {xs : List V} {ps : List (Int × Int × Int)} (C : Ctx P w K mg base k X W) (h : SqL K H a xs) (hd : DpAll K H xs (ps.map dTr)) (hne : ps ≠ [])
    (q : ∀ (i : Nat) x p, xs[i]? = some x → ps[i]? = some p → (∀ q ∈ ps, q.1 ≤ p.1) → Q x H) : CV X (.builtin "max") [.ref a] σ H Q := by
  have hK := C.K
  subst hK
  exact .of (cr_maxT C.c (by have := C.r.un; omega)) ⟨a, xs, ps, rfl, h, hd, hne, q⟩
theorem max_li {a : Addr} {ns : List Int} (C : Ctx P w K mg base k X W) (h : SqL K H a (ns.map V.int)) (hne : 0 < ns.length) (q : ∀ m, m ∈ ns → (∀ y, y ∈ ns → y ≤ m) → Q (.int m) H) : CV X (.builtin "max") [.ref a] σ H Q := by
  have hK := C.K
  subst hK
  exact .of (cr_max C.c) ⟨a, ns, rfl, h, hne, q⟩
theorem slc_t {p : Addr} {xs : List V} {lo hi : Option Int} (C : Ctx P w K mg base k X W) (h : SqT K H p xs) (hw : ¬ (HT.sIx xs.length 0 lo = 0 ∧ HT.sIx xs.length xs.length hi = xs.length)) (q : ∀ l, H l = none → Q (.ref l) (upd H l (.tup (cutV xs lo hi)))) : Slc X (.ref p) lo hi σ H Q := by
  have hK := C.K
  subst hK
  exact fun pins s v vl vu sl I rx hs pl pu => sl_tup pins s σ H (.ref p) v vl vu lo hi sl Q I rx hs pl pu ⟨p, xs, rfl, h, hw, q⟩
theorem shl_ii {i j : Int} (h : CPow i j) (q : Q (.int (i * 2 ^ j.toNat)) H) : O2 X (binaryOp .LShift) (.int i) (.int j) σ H Q := .of op_shl ⟨i, j, rfl, rfl, h, q⟩
end
end Vc

namespace Vc
open PySem PySem.Spec PyProof.Rows L2

/-! ### a module's name that holds a text -/
def fTxtG (x z : Str) : Fact := fun K => He.Fa.ok K (.str x z)
theorem Txt.strG {fa : List Fact} {fn : List DV} {K : PySem.W.Frag} {mg : Str → Option Value} (T : Txt fa fn K mg) {x z : Str} (h : fTxtG x z K = true) : ∃ t, mg x = some (.str z t) := by
  have h2 : (match PySem.W.nsIn K mainGlobals x with
    | some (some (.str y _)) => decide (y = z)
    | _ => false) = true := h
  split at h2
  · rename_i j t e
    obtain rfl := of_decide_eq_true h2
    exact ⟨t, T.g _ _ e⟩
  · cases h2
theorem s_gloS {X : Cx} {σ : L2.St} {H : Hp} {Q : VK} {x z : Str} (h : ∃ t, X.mg x = some (.str z t)) (q : Q (.str z) H) : tGlo X x σ H Q := by
  obtain ⟨t, h⟩ := h
  exact .inl ⟨_, .str z, h, ⟨t, rfl⟩, q⟩
end Vc

namespace Vc
open PySem PySem.Spec PyProof.Rows L2

/-! ### tuples of ints by >= -/
theorem op_geT {X : Cx} (hu : X.A.units < cLine) : OpR X (compareOp .GtE) (fun x y H Q => ∃ (a b : Addr) (ns ms : List Int), x = .ref a ∧ y = .ref b ∧ SqT X.K H a (ns.map V.int) ∧ SqT X.K H b (ms.map V.int) ∧
  Q (.bl (Ob.lexAt (fun j => decide (ns.getD j 0 = ms.getD j 0)) (fun j => decide (ms.getD j 0 ≤ ns.getD j 0)) (decide (ns.length ≥ ms.length)) 0 (min ns.length ms.length))) H) := by
  intro pins s σ H x y v u Q I rx ry h
  obtain ⟨a, b, ns, ms, rfl, rfl, ha, hb, q⟩ := h
  cases rx
  cases ry
  obtain ⟨its, r1, p1, _⟩ := I.tuple ha
  obtain ⟨its2, r2, p2, _⟩ := I.tuple hb
  have i1 : IntsAre its ns := Vals.ints r1
  have i2 : IntsAre its2 ms := Vals.ints r2
  have e1 : its.toArray.size = ns.length := by rw [List.size_toArray]; exact i1.length
  have e2 : its2.toArray.size = ms.length := by rw [List.size_toArray]; exact i2.length
  have at1 : ∀ j (h1 : j < its.toArray.size), ∃ t, its.toArray[j] = .int (ns.getD j 0) t := fun j h1 => PyProof.Rows.IntsAre.int_at i1 _ _ (by simp at h1; simp [h1])
  have at2 : ∀ j (h1 : j < its2.toArray.size), ∃ t, its2.toArray[j] = .int (ms.getD j 0) t := fun j h1 => PyProof.Rows.IntsAre.int_at i2 _ _ (by simp at h1; simp [h1])
  have R := Ob.RcOp.tuples_ge (A := X.A) (s := s) (e := fun j => decide (ns.getD j 0 = ms.getD j 0)) (r := fun j => decide (ms.getD j 0 ≤ ns.getD j 0)) p1 p2 hu (fun j h1 h2 => by
    obtain ⟨t, et⟩ := at1 j h1
    obtain ⟨t', et'⟩ := at2 j h2
    rw [et, et']
    have z : (ns.getD j 0 == ms.getD j 0) = decide (ns.getD j 0 = ms.getD j 0) := by
      by_cases q : ns.getD j 0 = ms.getD j 0
      · rw [decide_eq_true q]; exact beq_iff_eq.mpr q
      · rw [decide_eq_false q]; exact beq_eq_false_iff_ne.mpr q
    rw [← z]
    exact SeqAt.EqAt.int_int _ _ _ _) (fun j h1 h2 _ => by
    obtain ⟨t, et⟩ := at1 j h1
    obtain ⟨t', et'⟩ := at2 j h2
    rw [et, et']
    exact Ob.RcOp.ge_int _ _ _ _)
  rw [e1, e2] at R
  have z : wpAny (model X.prog X.w) X.A (compareOp .GtE (.ref a) (.ref b)) (EP X pins σ Q) X.xe s := R X.prog X.w X.xe (EP X pins σ Q) ⟨.bl _, H, I, rfl, q⟩
  exact z
section
variable {P : Program} {w : World} {K : PySem.W.Frag} {mg : Str → Option Value} {base : Heap} {k : Nat} {X : Cx} {W : WX} {σ : L2.St} {H : Hp} {Q : VK}
/-- (i, j) >= (i2, j2) -/
theorem ge_pp {a b : Addr} {i j i2 j2 : Int} (C : Ctx P w K mg base k X W) (ha : H a = some (.tup [.int i, .int j])) (hb : H b = some (.tup [.int i2, .int j2])) (q : Q (.bl (decide (i2 < i ∨ (i = i2 ∧ j2 ≤ j)))) H) : O2 X (compareOp .GtE) (.ref a) (.ref b) σ H Q := by
  refine .of (op_geT C.r.units0) ⟨a, b, [i, j], [i2, j2], rfl, rfl, .of ha, .of hb, ?_⟩
  have e : Ob.lexAt (fun n => decide (([i, j] : List Int).getD n 0 = ([i2, j2] : List Int).getD n 0)) (fun n => decide (([i2, j2] : List Int).getD n 0 ≤ ([i, j] : List Int).getD n 0)) (decide (([i, j] : List Int).length ≥ ([i2, j2] : List Int).length)) 0 (min ([i, j] : List Int).length ([i2, j2] : List Int).length) = decide (i2 < i ∨ (i = i2 ∧ j2 ≤ j)) := by
    show Ob.lexAt _ _ _ 0 2 = _
    rw [Ob.lexAt_succ, Ob.lexAt_succ, Ob.lexAt_zero]
    show (if decide (i = i2) = true then (if decide (j = j2) = true then true else decide (j2 ≤ j)) else decide (i2 ≤ i)) = _
    by_cases h1 : i = i2
    · rw [decide_eq_true h1, if_pos rfl]
      by_cases h2 : j = j2
      · rw [decide_eq_true h2, if_pos rfl]
        exact (decide_eq_true (.inr ⟨h1, by omega⟩)).symm
      · rw [decide_eq_false h2, if_neg Bool.false_ne_true]
        by_cases h3 : j2 ≤ j
        · rw [decide_eq_true h3]; exact (decide_eq_true (.inr ⟨h1, h3⟩)).symm
        · rw [decide_eq_false h3]; exact (decide_eq_false (by omega)).symm
    · rw [decide_eq_false h1, if_neg Bool.false_ne_true]
      by_cases h3 : i2 ≤ i
      · rw [decide_eq_true h3]; exact (decide_eq_true (by omega)).symm
      · rw [decide_eq_false h3]; exact (decide_eq_false (by omega)).symm
  rw [e]
  exact q
end
end Vc

namespace T
open PySem PySem.Spec PyProof.Rows L2 Vc
def top (i : Nat) : Stmt := PySem.Challenge.pw_twocolourflips_k17_numbers_of_best_flips.main.body.getD i (.Pass ⟨0, 0, 0, 0⟩)
/-! ### is_number -/
abbrev s_is_number : Stmt := top 12
abbrev N_is_number : List Str := [("candidate" : Str), ("least" : Str), ("greatest" : Str)]
theorem sc_is_number : FnScope N_is_number [("candidate" : Str), ("least" : Str), ("greatest" : Str)] (defScope s_is_number) := ⟨rfl, rfl, rfl, by decide +kernel, rfl, by decide +kernel, by decide +kernel⟩
def r_is_number (X : Cx) (W : WX) : TS :=
  (tRet (tAndE X (tCallG X ("isinstance" : Str) (tCons (tVar 0) (tCons (tGlo X ("int" : Str)) tNil))) (tAndE X (tUny X (unaryOp .Not) (tCallG X ("isinstance" : Str) (tCons (tVar 0) (tCons (tGlo X ("bool" : Str)) tNil)))) (tCh X (compareOp .LtE) (compareOp .LtE) (tVar 1) (tVar 0) (tVar 2)))))
theorem q_is_number (X : Cx) (W : WX) : rdSs (rdS N_is_number (defScope s_is_number) 60 X W true) (defBody s_is_number) = r_is_number X W := by kernel_rfl
/-! ### is_count -/
abbrev s_is_count : Stmt := top 13
abbrev N_is_count : List Str := [("candidate" : Str)]
theorem sc_is_count : FnScope N_is_count [("candidate" : Str)] (defScope s_is_count) := ⟨rfl, rfl, rfl, by decide +kernel, rfl, by decide +kernel, by decide +kernel⟩
def r_is_count (X : Cx) (W : WX) : TS :=
  (tRet (tAndE X (tCallG X ("isinstance" : Str) (tCons (tVar 0) (tCons (tGlo X ("int" : Str)) tNil))) (tAndE X (tUny X (unaryOp .Not) (tCallG X ("isinstance" : Str) (tCons (tVar 0) (tCons (tGlo X ("bool" : Str)) tNil)))) (tBin X (compareOp .GtE) (tVar 0) (tC (.int 0))))))
theorem q_is_count (X : Cx) (W : WX) : rdSs (rdS N_is_count (defScope s_is_count) 60 X W true) (defBody s_is_count) = r_is_count X W := by kernel_rfl
/-! ### is_colour -/
abbrev s_is_colour : Stmt := top 14
abbrev N_is_colour : List Str := [("candidate" : Str)]
theorem sc_is_colour : FnScope N_is_colour [("candidate" : Str)] (defScope s_is_colour) := ⟨rfl, rfl, rfl, by decide +kernel, rfl, by decide +kernel, by decide +kernel⟩
def r_is_colour (X : Cx) (W : WX) : TS :=
  (tRet (tCallG X ("is_number" : Str) (tCons (tVar 0) (tCons (tC (.int 0)) (tCons (tC (.int 1)) tNil)))))
theorem q_is_colour (X : Cx) (W : WX) : rdSs (rdS N_is_colour (defScope s_is_colour) 60 X W true) (defBody s_is_colour) = r_is_colour X W := by kernel_rfl
/-! ### joined -/
abbrev s_joined : Stmt := top 18
abbrev N_joined : List Str := [("first" : Str), ("second" : Str), ("colour" : Str), ("lengths" : Str), ("other" : Str), ("more" : Str)]
theorem sc_joined : FnScope N_joined [("first" : Str), ("second" : Str)] (defScope s_joined) := ⟨rfl, rfl, rfl, by decide +kernel, rfl, by decide +kernel, by decide +kernel⟩
def r_joined (X : Cx) (W : WX) : TS :=
  (tSeq (tAsg (tVar 0) (gUnp X.K 2 (gCons (gName 2) (gCons (gName 3) gNil))))
  (tSeq (tAsg (tVar 1) (gUnp X.K 2 (gCons (gName 4) (gCons (gName 5) gNil))))
  (tSeq (tIfS (tOr (tTru X (tBin X (compareOp .Eq) (tVar 3) (tLst tNil))) (tTru X (tBin X (compareOp .Eq) (tVar 5) (tLst tNil))))
    (tRet (tIf (tTru X (tBin X (compareOp .Eq) (tVar 3) (tLst tNil))) (tVar 1) (tVar 0)))
    tNext)
  (tSeq (tIfS (tTru X (tBin X (compareOp .NotEq) (tBin X (binaryOp .Mod) (tBin X (binaryOp .Sub) (tBin X (binaryOp .Add) (tVar 2) (tCallG X ("len" : Str) (tCons (tVar 3) tNil))) (tC (.int 1))) (tC (.int 2))) (tVar 4)))
    (tRet (tTup (tCons (tVar 2) (tCons (tBin X (binaryOp .Add) (tVar 3) (tVar 5)) tNil))))
    tNext)
  (tRet (tTup (tCons (tVar 2) (tCons (tLst (StX.tStar X.K (tSlc X (tVar 3) tNoPart (tPart (tUny X (unaryOp .USub) (tC (.int 1))))) (tCons (tBin X (binaryOp .Add) (tIx X (tVar 3) (tUny X (unaryOp .USub) (tC (.int 1)))) (tIx X (tVar 5) (tC (.int 0)))) (StX.tStar X.K (tSlc X (tVar 5) (tPart (tC (.int 1))) tNoPart) tNil)))) tNil))))))))
theorem q_joined (X : Cx) (W : WX) : rdSs (rdS N_joined (defScope s_joined) 60 X W true) (defBody s_joined) = r_joined X W := by kernel_rfl
/-! ### Row.__init__ -/
abbrev s_Row_init : Stmt := inClass (top 19) 0
abbrev N_Row_init : List Str := [("self" : Str), ("first" : Str), ("lengths" : Str), ("length" : Str)]
theorem sc_Row_init : FnScope N_Row_init [("self" : Str), ("first" : Str), ("lengths" : Str)] (defScope s_Row_init) := ⟨rfl, rfl, rfl, by decide +kernel, rfl, by decide +kernel, by decide +kernel⟩
def r_Row_init (X : Cx) (W : WX) : TS :=
  (tSeq (tIfS (tOr (tNot (tTru X (tCallG X ("is_colour" : Str) (tCons (tVar 1) tNil)))) (tOr (tNot (tTru X (tCallG X ("isinstance" : Str) (tCons (tVar 2) (tCons (tGlo X ("list" : Str)) tNil))))) (tTru X (tBin X (compareOp .Gt) (tCallG X ("len" : Str) (tCons (tVar 2) tNil)) (tGlo X ("MAX_RUNS" : Str))))))
    (tRai X W ("InvalidRow" : Str) (tCons (tC (.str ("a colour and a list of lengths are required" : Str))) tNil))
    tNext)
  (tSeq (tIfS (tOr (tNot (tTru X (tCallG X ("all" : Str) (tCons (tLcC X (iAny X (tVar 2)) (gName 3) tYes (tBlk X fun Y2 => (tCallG Y2 ("is_number" : Str) (tCons (tVar 3) (tCons (tC (.int 1)) (tCons (tGlo Y2 ("MAX_LENGTH" : Str)) tNil))))) [3]) tNil)))) (tTru X (tBin X (compareOp .Gt) (tCallG X ("sum" : Str) (tCons (tVar 2) tNil)) (tGlo X ("MAX_LENGTH" : Str)))))
    (tRai X W ("InvalidRow" : Str) (tCons (tC (.str ("a list of lengths is required" : Str))) tNil))
    tNext)
  (tSeq (tIfS (tAnd (tTru X (tBin X (compareOp .Eq) (tVar 2) (tLst tNil))) (tTru X (tBin X (compareOp .Eq) (tVar 1) (tC (.int 1)))))
    (tRai X W ("InvalidRow" : Str) (tCons (tC (.str ("an empty row has the first colour 0" : Str))) tNil))
    tNext)
  (tSeq (sAtr X ("colour" : Str) (tVar 0) (tVar 1))
  (sAtr X ("sizes" : Str) (tVar 0) (tCallG X ("list" : Str) (tCons (tVar 2) tNil)))))))
theorem q_Row_init (X : Cx) (W : WX) : rdSs (rdS N_Row_init (defScope s_Row_init) 60 X W true) (defBody s_Row_init) = r_Row_init X W := by kernel_rfl
/-! ### Row.first -/
abbrev s_Row_first : Stmt := inClass (top 19) 1
abbrev N_Row_first : List Str := [("self" : Str)]
theorem sc_Row_first : FnScope N_Row_first [("self" : Str)] (defScope s_Row_first) := ⟨rfl, rfl, rfl, by decide +kernel, rfl, by decide +kernel, by decide +kernel⟩
def r_Row_first (X : Cx) (W : WX) : TS :=
  (tRet (tAtr X ("colour" : Str) (tVar 0)))
theorem q_Row_first (X : Cx) (W : WX) : rdSs (rdS N_Row_first (defScope s_Row_first) 60 X W true) (defBody s_Row_first) = r_Row_first X W := by kernel_rfl
/-! ### Row.runs -/
abbrev s_Row_runs : Stmt := inClass (top 19) 4
abbrev N_Row_runs : List Str := [("self" : Str)]
theorem sc_Row_runs : FnScope N_Row_runs [("self" : Str)] (defScope s_Row_runs) := ⟨rfl, rfl, rfl, by decide +kernel, rfl, by decide +kernel, by decide +kernel⟩
def r_Row_runs (X : Cx) (W : WX) : TS :=
  (tRet (tCallG X ("len" : Str) (tCons (tAtr X ("sizes" : Str) (tVar 0)) tNil)))
theorem q_Row_runs (X : Cx) (W : WX) : rdSs (rdS N_Row_runs (defScope s_Row_runs) 60 X W true) (defBody s_Row_runs) = r_Row_runs X W := by kernel_rfl
/-! ### Row.borders -/
abbrev s_Row_borders : Stmt := inClass (top 19) 16
abbrev N_Row_borders : List Str := [("self" : Str), ("found" : Str), ("size" : Str)]
theorem sc_Row_borders : FnScope N_Row_borders [("self" : Str)] (defScope s_Row_borders) := ⟨rfl, rfl, rfl, by decide +kernel, rfl, by decide +kernel, by decide +kernel⟩
def r_Row_borders (X : Cx) (W : WX) : TS :=
  (tSeq (tAsg (tLst (tCons (tC (.int 0)) tNil)) (gName 1))
  (tSeq (tForO (iAny X (tAtr X ("sizes" : Str) (tVar 0))) (gName 2)
    (tDrop (tMth X ("append" : Str) (tVar 1) (tCons (tBin X (binaryOp .Add) (tIx X (tVar 1) (tUny X (unaryOp .USub) (tC (.int 1)))) (tVar 2)) tNil))))
  (tRet (tVar 1))))
theorem q_Row_borders (X : Cx) (W : WX) : rdSs (rdS N_Row_borders (defScope s_Row_borders) 60 X W true) (defBody s_Row_borders) = r_Row_borders X W := by kernel_rfl
/-! ### check_game -/
abbrev s_check_game : Stmt := top 23
abbrev N_check_game : List Str := [("game" : Str)]
theorem sc_check_game : FnScope N_check_game [("game" : Str)] (defScope s_check_game) := ⟨rfl, rfl, rfl, by decide +kernel, rfl, by decide +kernel, by decide +kernel⟩
def r_check_game (X : Cx) (W : WX) : TS :=
  (tIfS (tOr (tNot (tTru X (tCallG X ("isinstance" : Str) (tCons (tVar 0) (tCons (tGlo X ("str" : Str)) tNil))))) (tTru X (tBin X (compareOp .NotIn) (tVar 0) (tGlo X ("GAMES" : Str)))))
    (tRai X W ("InvalidGame" : Str) (tCons (tC (.str ("a game is required" : Str))) tNil))
    tNext)
theorem q_check_game (X : Cx) (W : WX) : rdSs (rdS N_check_game (defScope s_check_game) 60 X W true) (defBody s_check_game) = r_check_game X W := by kernel_rfl
/-! ### Flip.__init__ -/
abbrev s_Flip_init : Stmt := inClass (top 24) 0
abbrev N_Flip_init : List Str := [("self" : Str), ("start" : Str), ("end" : Str)]
theorem sc_Flip_init : FnScope N_Flip_init [("self" : Str), ("start" : Str), ("end" : Str)] (defScope s_Flip_init) := ⟨rfl, rfl, rfl, by decide +kernel, rfl, by decide +kernel, by decide +kernel⟩
def r_Flip_init (X : Cx) (W : WX) : TS :=
  (tSeq (tIfS (tOr (tNot (tTru X (tCallG X ("is_count" : Str) (tCons (tVar 1) tNil)))) (tOr (tNot (tTru X (tCallG X ("is_count" : Str) (tCons (tVar 2) tNil)))) (tTru X (tBin X (compareOp .GtE) (tVar 1) (tVar 2)))))
    (tRai X W ("InvalidFlip" : Str) (tCons (tC (.str ("two places are required" : Str))) tNil))
    tNext)
  (tSeq (sAtr X ("begin" : Str) (tVar 0) (tVar 1))
  (sAtr X ("finish" : Str) (tVar 0) (tVar 2))))
theorem q_Flip_init (X : Cx) (W : WX) : rdSs (rdS N_Flip_init (defScope s_Flip_init) 60 X W true) (defBody s_Flip_init) = r_Flip_init X W := by kernel_rfl
/-! ### Flip.start -/
abbrev s_Flip_start : Stmt := inClass (top 24) 1
abbrev N_Flip_start : List Str := [("self" : Str)]
theorem sc_Flip_start : FnScope N_Flip_start [("self" : Str)] (defScope s_Flip_start) := ⟨rfl, rfl, rfl, by decide +kernel, rfl, by decide +kernel, by decide +kernel⟩
def r_Flip_start (X : Cx) (W : WX) : TS :=
  (tRet (tAtr X ("begin" : Str) (tVar 0)))
theorem q_Flip_start (X : Cx) (W : WX) : rdSs (rdS N_Flip_start (defScope s_Flip_start) 60 X W true) (defBody s_Flip_start) = r_Flip_start X W := by kernel_rfl
/-! ### Flip.end -/
abbrev s_Flip_end : Stmt := inClass (top 24) 2
abbrev N_Flip_end : List Str := [("self" : Str)]
theorem sc_Flip_end : FnScope N_Flip_end [("self" : Str)] (defScope s_Flip_end) := ⟨rfl, rfl, rfl, by decide +kernel, rfl, by decide +kernel, by decide +kernel⟩
def r_Flip_end (X : Cx) (W : WX) : TS :=
  (tRet (tAtr X ("finish" : Str) (tVar 0)))
theorem q_Flip_end (X : Cx) (W : WX) : rdSs (rdS N_Flip_end (defScope s_Flip_end) 60 X W true) (defBody s_Flip_end) = r_Flip_end X W := by kernel_rfl
/-! ### check_goal -/
abbrev s_check_goal : Stmt := top 27
abbrev N_check_goal : List Str := [("goal" : Str)]
theorem sc_check_goal : FnScope N_check_goal [("goal" : Str)] (defScope s_check_goal) := ⟨rfl, rfl, rfl, by decide +kernel, rfl, by decide +kernel, by decide +kernel⟩
def r_check_goal (X : Cx) (W : WX) : TS :=
  (tIfS (tOr (tNot (tTru X (tCallG X ("isinstance" : Str) (tCons (tVar 0) (tCons (tGlo X ("str" : Str)) tNil))))) (tTru X (tBin X (compareOp .NotIn) (tVar 0) (tGlo X ("GOALS" : Str)))))
    (tRai X W ("InvalidGoal" : Str) (tCons (tC (.str ("a goal is required" : Str))) tNil))
    tNext)
theorem q_check_goal (X : Cx) (W : WX) : rdSs (rdS N_check_goal (defScope s_check_goal) 60 X W true) (defBody s_check_goal) = r_check_goal X W := by kernel_rfl
/-! ### check_words -/
abbrev s_check_words : Stmt := top 28
abbrev N_check_words : List Str := [("game" : Str), ("goal" : Str)]
theorem sc_check_words : FnScope N_check_words [("game" : Str), ("goal" : Str)] (defScope s_check_words) := ⟨rfl, rfl, rfl, by decide +kernel, rfl, by decide +kernel, by decide +kernel⟩
def r_check_words (X : Cx) (W : WX) : TS :=
  (tSeq (tDrop (tCallG X ("check_game" : Str) (tCons (tVar 0) tNil)))
  (tDrop (tCallG X ("check_goal" : Str) (tCons (tVar 1) tNil))))
theorem q_check_words (X : Cx) (W : WX) : rdSs (rdS N_check_words (defScope s_check_words) 60 X W true) (defBody s_check_words) = r_check_words X W := by kernel_rfl
/-! ### sorting_cost -/
abbrev s_sorting_cost : Stmt := top 29
abbrev N_sorting_cost : List Str := [("runs" : Str), ("first" : Str), ("game" : Str), ("last" : Str)]
theorem sc_sorting_cost : FnScope N_sorting_cost [("runs" : Str), ("first" : Str), ("game" : Str)] (defScope s_sorting_cost) := ⟨rfl, rfl, rfl, by decide +kernel, rfl, by decide +kernel, by decide +kernel⟩
def r_sorting_cost (X : Cx) (W : WX) : TS :=
  (tSeq (tAsg (tBin X (binaryOp .Mod) (tBin X (binaryOp .Sub) (tBin X (binaryOp .Add) (tVar 1) (tVar 0)) (tC (.int 1))) (tC (.int 2))) (gName 3))
  (tMat X (tVar 2) [(some (tC (.str ("front" : Str))), (tRet (tBin X (binaryOp .Add) (tBin X (binaryOp .Sub) (tVar 0) (tC (.int 2))) (tCallG X ("int" : Str) (tCons (tBin X (compareOp .Eq) (tVar 3) (tC (.int 0))) tNil))))),
    (some (tC (.str ("ends" : Str))), (tRet (tBin X (binaryOp .Add) (tBin X (binaryOp .Sub) (tVar 0) (tC (.int 2))) (tCallG X ("int" : Str) (tCons (tAndE X (tBin X (compareOp .Eq) (tVar 0) (tC (.int 2))) (tBin X (compareOp .Eq) (tVar 1) (tC (.int 1)))) tNil))))),
    (none, (tRet (tBin X (binaryOp .FloorDiv) (tBin X (binaryOp .Add) (tBin X (binaryOp .Add) (tBin X (binaryOp .Sub) (tVar 0) (tC (.int 2))) (tVar 1)) (tCallG X ("int" : Str) (tCons (tBin X (compareOp .Eq) (tVar 3) (tC (.int 0))) tNil))) (tC (.int 2)))))]))
theorem q_sorting_cost (X : Cx) (W : WX) : rdSs (rdS N_sorting_cost (defScope s_sorting_cost) 60 X W true) (defBody s_sorting_cost) = r_sorting_cost X W := by kernel_rfl
/-! ### plain_cost -/
abbrev s_plain_cost : Stmt := top 30
abbrev N_plain_cost : List Str := [("runs" : Str), ("first" : Str), ("game" : Str), ("goal" : Str)]
theorem sc_plain_cost : FnScope N_plain_cost [("runs" : Str), ("first" : Str), ("game" : Str), ("goal" : Str)] (defScope s_plain_cost) := ⟨rfl, rfl, rfl, by decide +kernel, rfl, by decide +kernel, by decide +kernel⟩
def r_plain_cost (X : Cx) (W : WX) : TS :=
  (tSeq (tIfS (tTru X (tBin X (compareOp .Lt) (tVar 0) (tC (.int 2))))
    (tRet (tC (.int 0)))
    tNext)
  (tSeq (tIfS (tTru X (tBin X (compareOp .Eq) (tVar 3) (tC (.str ("sorted" : Str)))))
    (tRet (tCallG X ("sorting_cost" : Str) (tCons (tVar 0) (tCons (tVar 1) (tCons (tVar 2) tNil)))))
    tNext)
  (tRet (tIf (tTru X (tBin X (compareOp .Eq) (tVar 2) (tC (.str ("parts" : Str))))) (tBin X (binaryOp .FloorDiv) (tBin X (binaryOp .Sub) (tVar 0) (tC (.int 1))) (tC (.int 2))) (tBin X (binaryOp .Sub) (tVar 0) (tC (.int 2)))))))
theorem q_plain_cost (X : Cx) (W : WX) : rdSs (rdS N_plain_cost (defScope s_plain_cost) 60 X W true) (defBody s_plain_cost) = r_plain_cost X W := by kernel_rfl
/-! ### numbers_by_kind -/
abbrev s_numbers_by_kind : Stmt := top 33
abbrev N_numbers_by_kind : List Str := [("runs" : Str), ("inner" : Str)]
theorem sc_numbers_by_kind : FnScope N_numbers_by_kind [("runs" : Str)] (defScope s_numbers_by_kind) := ⟨rfl, rfl, rfl, by decide +kernel, rfl, by decide +kernel, by decide +kernel⟩
def r_numbers_by_kind (X : Cx) (W : WX) : TS :=
  (tSeq (tIfS (tTru X (tBin X (compareOp .Eq) (tVar 0) (tC (.int 0))))
    (tRet (tDisp [((tC (.str ("inner" : Str))), (tC (.int 0))), ((tC (.str ("left" : Str))), (tC (.int 0))), ((tC (.str ("right" : Str))), (tC (.int 0))), ((tC (.str ("whole" : Str))), (tC (.int 0)))]))
    tNext)
  (tSeq (tAsg (tIf (tTru X (tBin X (compareOp .GtE) (tVar 0) (tC (.int 2)))) (tBin X (binaryOp .FloorDiv) (tBin X (binaryOp .Pow) (tBin X (binaryOp .Sub) (tVar 0) (tC (.int 2))) (tC (.int 2))) (tC (.int 4))) (tC (.int 0))) (gName 1))
  (tRet (tDisp [((tC (.str ("inner" : Str))), (tVar 1)), ((tC (.str ("left" : Str))), (tBin X (binaryOp .FloorDiv) (tBin X (binaryOp .Sub) (tVar 0) (tC (.int 1))) (tC (.int 2)))), ((tC (.str ("right" : Str))), (tBin X (binaryOp .FloorDiv) (tBin X (binaryOp .Sub) (tVar 0) (tC (.int 1))) (tC (.int 2)))), ((tC (.str ("whole" : Str))), (tC (.int 1)))]))))
theorem q_numbers_by_kind (X : Cx) (W : WX) : rdSs (rdS N_numbers_by_kind (defScope s_numbers_by_kind) 60 X W true) (defBody s_numbers_by_kind) = r_numbers_by_kind X W := by kernel_rfl
/-! ### state_after -/
abbrev s_state_after : Stmt := top 34
abbrev N_state_after : List Str := [("runs" : Str), ("first" : Str), ("kind" : Str)]
theorem sc_state_after : FnScope N_state_after [("runs" : Str), ("first" : Str), ("kind" : Str)] (defScope s_state_after) := ⟨rfl, rfl, rfl, by decide +kernel, rfl, by decide +kernel, by decide +kernel⟩
def r_state_after (X : Cx) (W : WX) : TS :=
  (tMat X (tVar 2) [(some (tC (.str ("inner" : Str))), (tRet (tTup (tCons (tBin X (binaryOp .Sub) (tVar 0) (tC (.int 2))) (tCons (tVar 1) tNil))))),
    (some (tC (.str ("left" : Str))), (tRet (tTup (tCons (tBin X (binaryOp .Sub) (tVar 0) (tC (.int 1))) (tCons (tBin X (binaryOp .Sub) (tC (.int 1)) (tVar 1)) tNil))))),
    (some (tC (.str ("right" : Str))), (tRet (tTup (tCons (tBin X (binaryOp .Sub) (tVar 0) (tC (.int 1))) (tCons (tVar 1) tNil))))),
    (none, (tRet (tTup (tCons (tVar 0) (tCons (tBin X (binaryOp .Mod) (tBin X (binaryOp .Sub) (tBin X (binaryOp .Add) (tVar 1) (tVar 0)) (tC (.int 1))) (tC (.int 2))) tNil)))))])
theorem q_state_after (X : Cx) (W : WX) : rdSs (rdS N_state_after (defScope s_state_after) 60 X W true) (defBody s_state_after) = r_state_after X W := by kernel_rfl
/-! ### kinds_of_game -/
abbrev s_kinds_of_game : Stmt := top 35
abbrev N_kinds_of_game : List Str := [("game" : Str)]
theorem sc_kinds_of_game : FnScope N_kinds_of_game [("game" : Str)] (defScope s_kinds_of_game) := ⟨rfl, rfl, rfl, by decide +kernel, rfl, by decide +kernel, by decide +kernel⟩
def r_kinds_of_game (X : Cx) (W : WX) : TS :=
  (tMat X (tVar 0) [(some (tC (.str ("front" : Str))), (tRet (tLst (tCons (tC (.str ("left" : Str))) (tCons (tC (.str ("whole" : Str))) tNil))))),
    (some (tC (.str ("ends" : Str))), (tRet (tLst (tCons (tC (.str ("left" : Str))) (tCons (tC (.str ("right" : Str))) (tCons (tC (.str ("whole" : Str))) tNil)))))),
    (none, (tRet (tLst (tCons (tC (.str ("inner" : Str))) (tCons (tC (.str ("left" : Str))) (tCons (tC (.str ("right" : Str))) (tCons (tC (.str ("whole" : Str))) tNil)))))))])
theorem q_kinds_of_game (X : Cx) (W : WX) : rdSs (rdS N_kinds_of_game (defScope s_kinds_of_game) 60 X W true) (defBody s_kinds_of_game) = r_kinds_of_game X W := by kernel_rfl
/-! ### best_kinds -/
abbrev s_best_kinds : Stmt := top 36
abbrev N_best_kinds : List Str := [("runs" : Str), ("first" : Str), ("game" : Str), ("goal" : Str), ("before" : Str), ("found" : Str), ("kind" : Str), ("later" : Str), ("colour" : Str)]
theorem sc_best_kinds : FnScope N_best_kinds [("runs" : Str), ("first" : Str), ("game" : Str), ("goal" : Str)] (defScope s_best_kinds) := ⟨rfl, rfl, rfl, by decide +kernel, rfl, by decide +kernel, by decide +kernel⟩
def r_best_kinds (X : Cx) (W : WX) : TS :=
  (tSeq (tAsg (tCallG X ("plain_cost" : Str) (tCons (tVar 0) (tCons (tVar 1) (tCons (tVar 2) (tCons (tVar 3) tNil))))) (gName 4))
  (tSeq (tAsg (tLst tNil) (gName 5))
  (tSeq (tForO (iAny X (tCallG X ("kinds_of_game" : Str) (tCons (tVar 2) tNil))) (gName 6)
    (tIfS (tTru X (tBin X (compareOp .Gt) (tIx X (tCallG X ("numbers_by_kind" : Str) (tCons (tVar 0) tNil)) (tVar 6)) (tC (.int 0))))
      (tSeq (tAsg (tCallG X ("state_after" : Str) (tCons (tVar 0) (tCons (tVar 1) (tCons (tVar 6) tNil)))) (gUnp X.K 2 (gCons (gName 7) (gCons (gName 8) gNil))))
      (tIfS (tTru X (tBin X (compareOp .Lt) (tCallG X ("plain_cost" : Str) (tCons (tVar 7) (tCons (tVar 8) (tCons (tVar 2) (tCons (tVar 3) tNil))))) (tVar 4)))
        (tDrop (tMth X ("append" : Str) (tVar 5) (tCons (tVar 6) tNil)))
        tNext))
      tNext))
  (tRet (tVar 5)))))
theorem q_best_kinds (X : Cx) (W : WX) : rdSs (rdS N_best_kinds (defScope s_best_kinds) 60 X W true) (defBody s_best_kinds) = r_best_kinds X W := by kernel_rfl
/-! ### count_best -/
abbrev s_count_best : Stmt := top 37
abbrev N_count_best : List Str := [("row" : Str), ("game" : Str), ("goal" : Str), ("numbers" : Str), ("kind" : Str)]
theorem sc_count_best : FnScope N_count_best [("row" : Str), ("game" : Str), ("goal" : Str)] (defScope s_count_best) := ⟨rfl, rfl, rfl, by decide +kernel, rfl, by decide +kernel, by decide +kernel⟩
def r_count_best (X : Cx) (W : WX) : TS :=
  (tSeq (tDrop (tCallG X ("check_words" : Str) (tCons (tVar 1) (tCons (tVar 2) tNil))))
  (tSeq (tAsg (tCallG X ("numbers_by_kind" : Str) (tCons (tAtr X ("runs" : Str) (tVar 0)) tNil)) (gName 3))
  (tRet (tDcC X (iAny X (tCallG X ("best_kinds" : Str) (tCons (tAtr X ("runs" : Str) (tVar 0)) (tCons (tAtr X ("first" : Str) (tVar 0)) (tCons (tVar 1) (tCons (tVar 2) tNil)))))) (gName 4) tYes (tBlk X fun Y2 => (tVar 4)) (tBlk X fun Y2 => (tIx Y2 (tVar 3) (tVar 4))) [4]))))
theorem q_count_best (X : Cx) (W : WX) : rdSs (rdS N_count_best (defScope s_count_best) 60 X W true) (defBody s_count_best) = r_count_best X W := by kernel_rfl
/-! ### flips_of_kind -/
abbrev s_flips_of_kind : Stmt := top 38
abbrev N_flips_of_kind : List Str := [("row" : Str), ("kind" : Str), ("borders" : Str), ("runs" : Str), ("found" : Str), ("first" : Str), ("second" : Str), ("index" : Str)]
theorem sc_flips_of_kind : FnScope N_flips_of_kind [("row" : Str), ("kind" : Str)] (defScope s_flips_of_kind) := ⟨rfl, rfl, rfl, by decide +kernel, rfl, by decide +kernel, by decide +kernel⟩
def r_flips_of_kind (X : Cx) (W : WX) : TS :=
  (tSeq (tAsg (tTup (tCons (tMth X ("borders" : Str) (tVar 0) tNil) (tCons (tAtr X ("runs" : Str) (tVar 0)) tNil))) (gUnp X.K 2 (gCons (gName 2) (gCons (gName 3) gNil))))
  (tMat X (tVar 1) [(some (tC (.str ("left" : Str))), (tRet (tLcC X (iRg3 X (tCons (tC (.int 2)) (tCons (tVar 3) (tCons (tC (.int 2)) tNil)))) (gName 7) tYes (tBlk X fun Y2 => (tCallG Y2 ("Flip" : Str) (tCons (tC (.int 0)) (tCons (tIx Y2 (tVar 2) (tVar 7)) tNil)))) [7]))),
    (some (tC (.str ("right" : Str))), (tRet (tLcC X (iRg3 X (tCons (tC (.int 2)) (tCons (tVar 3) (tCons (tC (.int 2)) tNil)))) (gName 7) tYes (tBlk X fun Y2 => (tCallG Y2 ("Flip" : Str) (tCons (tIx Y2 (tVar 2) (tBin Y2 (binaryOp .Sub) (tVar 3) (tVar 7))) (tCons (tIx Y2 (tVar 2) (tVar 3)) tNil)))) [7]))),
    (some (tC (.str ("whole" : Str))), (tRet (tLst (tCons (tCallG X ("Flip" : Str) (tCons (tC (.int 0)) (tCons (tIx X (tVar 2) (tVar 3)) tNil))) tNil)))),
    (none, (tSeq (tAsg (tLst tNil) (gName 4))
    (tSeq (tForO (iRg2 X (tCons (tC (.int 1)) (tCons (tVar 3) tNil))) (gName 5)
      (tForO (iRg3 X (tCons (tBin X (binaryOp .Add) (tVar 5) (tC (.int 2))) (tCons (tVar 3) (tCons (tC (.int 2)) tNil)))) (gName 6)
        (tDrop (tMth X ("append" : Str) (tVar 4) (tCons (tCallG X ("Flip" : Str) (tCons (tIx X (tVar 2) (tVar 5)) (tCons (tIx X (tVar 2) (tVar 6)) tNil))) tNil)))))
    (tRet (tVar 4)))))]))
theorem q_flips_of_kind (X : Cx) (W : WX) : rdSs (rdS N_flips_of_kind (defScope s_flips_of_kind) 60 X W true) (defBody s_flips_of_kind) = r_flips_of_kind X W := by kernel_rfl
/-! ### plain_best_flips -/
abbrev s_plain_best_flips : Stmt := top 39
abbrev N_plain_best_flips : List Str := [("row" : Str), ("game" : Str), ("goal" : Str), ("found" : Str), ("kind" : Str)]
theorem sc_plain_best_flips : FnScope N_plain_best_flips [("row" : Str), ("game" : Str), ("goal" : Str)] (defScope s_plain_best_flips) := ⟨rfl, rfl, rfl, by decide +kernel, rfl, by decide +kernel, by decide +kernel⟩
def r_plain_best_flips (X : Cx) (W : WX) : TS :=
  (tSeq (tAsg (tLst tNil) (gName 3))
  (tSeq (tForO (iAny X (tCallG X ("best_kinds" : Str) (tCons (tAtr X ("runs" : Str) (tVar 0)) (tCons (tAtr X ("first" : Str) (tVar 0)) (tCons (tVar 1) (tCons (tVar 2) tNil)))))) (gName 4)
    (tDrop (tMth X ("extend" : Str) (tVar 3) (tCons (tCallG X ("flips_of_kind" : Str) (tCons (tVar 0) (tCons (tVar 4) tNil))) tNil))))
  (tRet (tSortK X ("flip" : Str) (tVar 3) fun Y2 => (tTup (tCons (tAtr Y2 ("start" : Str) (tVar 5)) (tCons (tAtr Y2 ("end" : Str) (tVar 5)) tNil)))))))
theorem q_plain_best_flips (X : Cx) (W : WX) : rdSs (rdS N_plain_best_flips (defScope s_plain_best_flips) 60 X W true) (defBody s_plain_best_flips) = r_plain_best_flips X W := by kernel_rfl
/-! ### best_flips -/
abbrev s_best_flips : Stmt := top 40
abbrev N_best_flips : List Str := [("row" : Str), ("game" : Str), ("goal" : Str)]
theorem sc_best_flips : FnScope N_best_flips [("row" : Str), ("game" : Str), ("goal" : Str)] (defScope s_best_flips) := ⟨rfl, rfl, rfl, by decide +kernel, rfl, by decide +kernel, by decide +kernel⟩
def r_best_flips (X : Cx) (W : WX) : TS :=
  (tSeq (tIfS (tTru X (tBin X (compareOp .Gt) (tCallG X ("sum" : Str) (tCons (tMth X ("values" : Str) (tCallG X ("count_best" : Str) (tCons (tVar 0) (tCons (tVar 1) (tCons (tVar 2) tNil)))) tNil) tNil)) (tGlo X ("MAX_BEST" : Str))))
    (tRai X W ("LimitExceeded" : Str) (tCons (tGlo X ("MAX_BEST" : Str)) tNil))
    tNext)
  (tRet (tCallG X ("plain_best_flips" : Str) (tCons (tVar 0) (tCons (tVar 1) (tCons (tVar 2) tNil))))))
theorem q_best_flips (X : Cx) (W : WX) : rdSs (rdS N_best_flips (defScope s_best_flips) 60 X W true) (defBody s_best_flips) = r_best_flips X W := by kernel_rfl
/-! ### _law_stream -/
abbrev s__law_stream : Stmt := top 42
abbrev N__law_stream : List Str := [("_law_script" : Str), ("_law_k" : Str), ("_law_cell" : Str), ("_law_size" : Str), ("_law_mixed" : Str)]
theorem sc__law_stream : FnScope N__law_stream [("_law_script" : Str), ("_law_k" : Str)] (defScope s__law_stream) := ⟨rfl, rfl, rfl, by decide +kernel, rfl, by decide +kernel, by decide +kernel⟩
def r__law_stream (X : Cx) (W : WX) : TS :=
  (tSeq (tAsg (tC (.int 0)) (gName 2))
  (tSeq (tIfS (tTru X (tBin X (compareOp .Lt) (tVar 1) (tCallG X ("len" : Str) (tCons (tVar 0) tNil))))
    (tAsg (tIx X (tVar 0) (tVar 1)) (gName 2))
    tNext)
  (tSeq (tAsg (tCallG X ("max" : Str) (tCons (tVar 2) (tCons (tBin X (binaryOp .Sub) (tUny X (unaryOp .USub) (tC (.int 1))) (tVar 2)) tNil))) (gName 3))
  (tSeq (tAsg (tBin X (binaryOp .Mod) (tBin X (binaryOp .Mult) (tBin X (binaryOp .Add) (tBin X (binaryOp .Add) (tBin X (binaryOp .Add) (tBin X (binaryOp .Mod) (tVar 3) (tC (.int 2147483629))) (tBin X (binaryOp .Mult) (tBin X (binaryOp .Mult) (tC (.int 7919)) (tVar 1)) (tVar 1))) (tBin X (binaryOp .Mult) (tC (.int 31)) (tVar 1))) (tC (.int 17))) (tC (.int 48271))) (tC (.int 2147483647))) (gName 4))
  (tRet (tLst (tCons (tBin X (binaryOp .Mult) (tVar 3) (tCallG X ("int" : Str) (tCons (tBin X (compareOp .GtE) (tVar 3) (tBin X (binaryOp .Pow) (tC (.int 10)) (tC (.int 18)))) tNil))) (tCons (tVar 4) tNil))))))))
theorem q__law_stream (X : Cx) (W : WX) : rdSs (rdS N__law_stream (defScope s__law_stream) 60 X W true) (defBody s__law_stream) = r__law_stream X W := by kernel_rfl
/-! ### _law_draw -/
abbrev s__law_draw : Stmt := top 43
abbrev N__law_draw : List Str := [("_law_stream_here" : Str), ("_law_count" : Str), ("_law_result" : Str)]
theorem sc__law_draw : FnScope N__law_draw [("_law_stream_here" : Str), ("_law_count" : Str)] (defScope s__law_draw) := ⟨rfl, rfl, rfl, by decide +kernel, rfl, by decide +kernel, by decide +kernel⟩
def r__law_draw (X : Cx) (W : WX) : TS :=
  (tSeq (tIfS (tTru X (tBin X (compareOp .Gt) (tIx X (tVar 0) (tC (.int 0))) (tC (.int 0))))
    (tSeq (tAsg (tBin X (binaryOp .Mod) (tIx X (tVar 0) (tC (.int 0))) (tVar 1)) (gName 2))
    (tSeq (tAsg (tBin X (binaryOp .FloorDiv) (tIx X (tVar 0) (tC (.int 0))) (tVar 1)) (gIx X (tVar 0) (tC (.int 0))))
    (tRet (tVar 2))))
    tNext)
  (tSeq (tAsg (tBin X (binaryOp .Mod) (tBin X (binaryOp .Add) (tBin X (binaryOp .Mult) (tIx X (tVar 0) (tC (.int 1))) (tC (.int 69621))) (tC (.int 7))) (tC (.int 2147483647))) (gIx X (tVar 0) (tC (.int 1))))
  (tRet (tBin X (binaryOp .Mod) (tBin X (binaryOp .FloorDiv) (tBin X (binaryOp .Mod) (tBin X (binaryOp .Mult) (tIx X (tVar 0) (tC (.int 1))) (tIx X (tVar 0) (tC (.int 1)))) (tC (.int 2147483629))) (tC (.int 32))) (tVar 1)))))
theorem q__law_draw (X : Cx) (W : WX) : rdSs (rdS N__law_draw (defScope s__law_draw) 60 X W true) (defBody s__law_draw) = r__law_draw X W := by kernel_rfl
/-! ### _law_cost -/
abbrev s__law_cost : Stmt := top 45
abbrev N__law_cost : List Str := [("_law_runs" : Str), ("_law_first" : Str), ("_law_game" : Str), ("_law_goal" : Str), ("_law_last" : Str)]
theorem sc__law_cost : FnScope N__law_cost [("_law_runs" : Str), ("_law_first" : Str), ("_law_game" : Str), ("_law_goal" : Str)] (defScope s__law_cost) := ⟨rfl, rfl, rfl, by decide +kernel, rfl, by decide +kernel, by decide +kernel⟩
def r__law_cost (X : Cx) (W : WX) : TS :=
  (tSeq (tAsg (tBin X (binaryOp .Mod) (tBin X (binaryOp .Sub) (tBin X (binaryOp .Add) (tVar 1) (tVar 0)) (tC (.int 1))) (tC (.int 2))) (gName 4))
  (tSeq (tIfS (tTru X (tBin X (compareOp .Lt) (tVar 0) (tC (.int 2))))
    (tRet (tC (.int 0)))
    tNext)
  (tSeq (tIfS (tTru X (tBin X (compareOp .Eq) (tVar 3) (tC (.str ("grouped" : Str)))))
    (tRet (tIf (tTru X (tBin X (compareOp .Eq) (tVar 2) (tC (.str ("parts" : Str))))) (tBin X (binaryOp .FloorDiv) (tBin X (binaryOp .Sub) (tVar 0) (tC (.int 1))) (tC (.int 2))) (tBin X (binaryOp .Sub) (tVar 0) (tC (.int 2)))))
    tNext)
  (tSeq (tIfS (tTru X (tBin X (compareOp .Eq) (tVar 2) (tC (.str ("front" : Str)))))
    (tRet (tBin X (binaryOp .Add) (tBin X (binaryOp .Sub) (tVar 0) (tC (.int 2))) (tIf (tTru X (tBin X (compareOp .Eq) (tVar 4) (tC (.int 0)))) (tC (.int 1)) (tC (.int 0)))))
    tNext)
  (tSeq (tIfS (tTru X (tBin X (compareOp .Eq) (tVar 2) (tC (.str ("ends" : Str)))))
    (tRet (tIf (tAnd (tTru X (tBin X (compareOp .Eq) (tVar 0) (tC (.int 2)))) (tTru X (tBin X (compareOp .Eq) (tVar 1) (tC (.int 1))))) (tC (.int 1)) (tBin X (binaryOp .Sub) (tVar 0) (tC (.int 2)))))
    tNext)
  (tSeq (tIfS (tTru X (tBin X (compareOp .Eq) (tVar 1) (tVar 4)))
    (tRet (tBin X (binaryOp .FloorDiv) (tBin X (binaryOp .Sub) (tVar 0) (tC (.int 1))) (tC (.int 2))))
    tNext)
  (tRet (tIf (tTru X (tBin X (compareOp .Eq) (tVar 1) (tC (.int 0)))) (tBin X (binaryOp .FloorDiv) (tBin X (binaryOp .Sub) (tVar 0) (tC (.int 2))) (tC (.int 2))) (tBin X (binaryOp .FloorDiv) (tVar 0) (tC (.int 2)))))))))))
theorem q__law_cost (X : Cx) (W : WX) : rdSs (rdS N__law_cost (defScope s__law_cost) 60 X W true) (defBody s__law_cost) = r__law_cost X W := by kernel_rfl
/-! ### _law_after -/
abbrev s__law_after : Stmt := top 46
abbrev N__law_after : List Str := [("_law_runs" : Str), ("_law_first" : Str), ("_law_kind" : Str)]
theorem sc__law_after : FnScope N__law_after [("_law_runs" : Str), ("_law_first" : Str), ("_law_kind" : Str)] (defScope s__law_after) := ⟨rfl, rfl, rfl, by decide +kernel, rfl, by decide +kernel, by decide +kernel⟩
def r__law_after (X : Cx) (W : WX) : TS :=
  (tSeq (tIfS (tTru X (tBin X (compareOp .Eq) (tVar 2) (tC (.str ("inner" : Str)))))
    (tRet (tLst (tCons (tBin X (binaryOp .Sub) (tVar 0) (tC (.int 2))) (tCons (tVar 1) tNil))))
    tNext)
  (tSeq (tIfS (tTru X (tBin X (compareOp .Eq) (tVar 2) (tC (.str ("whole" : Str)))))
    (tRet (tLst (tCons (tVar 0) (tCons (tBin X (binaryOp .Mod) (tBin X (binaryOp .Sub) (tBin X (binaryOp .Add) (tVar 1) (tVar 0)) (tC (.int 1))) (tC (.int 2))) tNil))))
    tNext)
  (tRet (tLst (tCons (tBin X (binaryOp .Sub) (tVar 0) (tC (.int 1))) (tCons (tIf (tTru X (tBin X (compareOp .Eq) (tVar 2) (tC (.str ("left" : Str))))) (tBin X (binaryOp .Sub) (tC (.int 1)) (tVar 1)) (tVar 1)) tNil))))))
theorem q__law_after (X : Cx) (W : WX) : rdSs (rdS N__law_after (defScope s__law_after) 60 X W true) (defBody s__law_after) = r__law_after X W := by kernel_rfl
/-! ### _law_numbers -/
abbrev s__law_numbers : Stmt := top 47
abbrev N__law_numbers : List Str := [("_law_runs" : Str), ("_law_first" : Str), ("_law_game" : Str), ("_law_goal" : Str), ("_law_sides" : Str), ("_law_inner" : Str), ("_law_numbers_here" : Str), ("_law_kinds" : Str), ("_law_result" : Str), ("_law_kind" : Str), ("_law_later" : Str)]
theorem sc__law_numbers : FnScope N__law_numbers [("_law_runs" : Str), ("_law_first" : Str), ("_law_game" : Str), ("_law_goal" : Str)] (defScope s__law_numbers) := ⟨rfl, rfl, rfl, by decide +kernel, rfl, by decide +kernel, by decide +kernel⟩
def r__law_numbers (X : Cx) (W : WX) : TS :=
  (tSeq (tAsg (tIf (tTru X (tBin X (compareOp .Gt) (tVar 0) (tC (.int 0)))) (tBin X (binaryOp .FloorDiv) (tBin X (binaryOp .Sub) (tVar 0) (tC (.int 1))) (tC (.int 2))) (tC (.int 0))) (gName 4))
  (tSeq (tAsg (tIf (tTru X (tBin X (compareOp .Gt) (tVar 0) (tC (.int 1)))) (tBin X (binaryOp .FloorDiv) (tBin X (binaryOp .Pow) (tBin X (binaryOp .Sub) (tVar 0) (tC (.int 2))) (tC (.int 2))) (tC (.int 4))) (tC (.int 0))) (gName 5))
  (tSeq (tAsg (tDisp [((tC (.str ("inner" : Str))), (tVar 5)), ((tC (.str ("left" : Str))), (tVar 4)), ((tC (.str ("right" : Str))), (tVar 4)), ((tC (.str ("whole" : Str))), (tIf (tTru X (tBin X (compareOp .Gt) (tVar 0) (tC (.int 0)))) (tC (.int 1)) (tC (.int 0))))]) (gName 6))
  (tSeq (tAsg (tIf (tTru X (tBin X (compareOp .Eq) (tVar 2) (tC (.str ("front" : Str))))) (tLst (tCons (tC (.str ("left" : Str))) (tCons (tC (.str ("whole" : Str))) tNil))) (tLst (tCons (tC (.str ("left" : Str))) (tCons (tC (.str ("right" : Str))) (tCons (tC (.str ("whole" : Str))) tNil))))) (gName 7))
  (tSeq (tIfS (tTru X (tBin X (compareOp .Eq) (tVar 2) (tC (.str ("parts" : Str)))))
    (tAsg (tBin X (binaryOp .Add) (tLst (tCons (tC (.str ("inner" : Str))) tNil)) (tVar 7)) (gName 7))
    tNext)
  (tSeq (tAsg tDNew (gName 8))
  (tSeq (tForO (iAny X (tVar 7)) (gName 9)
    (tSeq (tAsg (tCallG X ("_law_after" : Str) (tCons (tVar 0) (tCons (tVar 1) (tCons (tVar 9) tNil)))) (gName 10))
    (tIfS (tTru X (tBin X (compareOp .Gt) (tIx X (tVar 6) (tVar 9)) (tC (.int 0))))
      (tIfS (tTru X (tBin X (compareOp .Lt) (tCallG X ("_law_cost" : Str) (tCons (tIx X (tVar 10) (tC (.int 0))) (tCons (tIx X (tVar 10) (tC (.int 1))) (tCons (tVar 2) (tCons (tVar 3) tNil))))) (tCallG X ("_law_cost" : Str) (tCons (tVar 0) (tCons (tVar 1) (tCons (tVar 2) (tCons (tVar 3) tNil)))))))
        (tAsg (tIx X (tVar 6) (tVar 9)) (gIx X (tVar 8) (tVar 9)))
        tNext)
      tNext)))
  (tRet (tVar 8)))))))))
theorem q__law_numbers (X : Cx) (W : WX) : rdSs (rdS N__law_numbers (defScope s__law_numbers) 60 X W true) (defBody s__law_numbers) = r__law_numbers X W := by kernel_rfl
/-! ### _law_outcome -/
abbrev s__law_outcome : Stmt := top 48
abbrev N__law_outcome : List Str := [("_law_call" : Str), ("e" : Str)]
theorem sc__law_outcome : FnScope N__law_outcome [("_law_call" : Str)] (defScope s__law_outcome) := ⟨rfl, rfl, rfl, by decide +kernel, rfl, by decide +kernel, by decide +kernel⟩
def r__law_outcome (X : Cx) (W : WX) : TS :=
  (tTryN X W [("LimitExceeded" : Str), ("InvalidGame" : Str), ("InvalidGoal" : Str)]
    [(some 1, (tSuite X fun Y2 => (tRet (tLst (tCons (tC (.str ("many" : Str))) (tCons (tAtr Y2 ("limit" : Str) (tVar 1)) (tCons (tCallG Y2 ("isinstance" : Str) (tCons (tVar 1) (tCons (tGlo Y2 ("OverflowError" : Str)) tNil))) tNil))))))),
    (none, (tSuite X fun Y2 => (tRet (tC (.str ("game" : Str)))))),
    (none, (tSuite X fun Y2 => (tRet (tC (.str ("goal" : Str))))))]
    fun Y2 V2 => (tRet (tCallL0 Y2 0)))
theorem q__law_outcome (X : Cx) (W : WX) : rdSs (rdS N__law_outcome (defScope s__law_outcome) 60 X W true) (defBody s__law_outcome) = r__law_outcome X W := by kernel_rfl
/-! ### _law_listed -/
abbrev s__law_listed : Stmt := top 49
abbrev N__law_listed : List Str := [("_law_row" : Str), ("_law_game" : Str), ("_law_goal" : Str), ("_law_number" : Str), ("_law_pairs" : Str), ("_law_flip" : Str), ("_law_place" : Str)]
theorem sc__law_listed : FnScope N__law_listed [("_law_row" : Str), ("_law_game" : Str), ("_law_goal" : Str), ("_law_number" : Str)] (defScope s__law_listed) := ⟨rfl, rfl, rfl, by decide +kernel, rfl, by decide +kernel, by decide +kernel⟩
def r__law_listed (X : Cx) (W : WX) : TS :=
  (tSeq (tAsg (tLcC X (iAny X (tCallG X ("best_flips" : Str) (tCons (tVar 0) (tCons (tVar 1) (tCons (tVar 2) tNil))))) (gName 5) tYes (tBlk X fun Y2 => (tTup (tCons (tAtr Y2 ("start" : Str) (tVar 5)) (tCons (tAtr Y2 ("end" : Str) (tVar 5)) tNil)))) [5]) (gName 4))
  (tSeq (tIfS (tTru X (tBin X (compareOp .NotEq) (tCallG X ("len" : Str) (tCons (tVar 4) tNil)) (tVar 3)))
    (tRet (tC (.bl false)))
    tNext)
  (tRet (tBin X (compareOp .Eq) (tLcC X (iRg2 X (tCons (tC (.int 1)) (tCons (tVar 3) tNil))) (gName 6) (tBlkT X fun Y2 => (tTru Y2 (tBin Y2 (compareOp .GtE) (tIx Y2 (tVar 4) (tBin Y2 (binaryOp .Sub) (tVar 6) (tC (.int 1)))) (tIx Y2 (tVar 4) (tVar 6))))) (tBlk X fun Y2 => (tVar 6)) [6]) (tLst tNil)))))
theorem q__law_listed (X : Cx) (W : WX) : rdSs (rdS N__law_listed (defScope s__law_listed) 60 X W true) (defBody s__law_listed) = r__law_listed X W := by kernel_rfl
/-! ### law -/
abbrev s_law : Stmt := top 50
abbrev N_law : List Str := [("_law_script" : Str), ("_law_k" : Str), ("_law_stream_here" : Str), ("_law_runs" : Str), ("_law_game" : Str), ("_law_goal" : Str), ("_law_numbers_here" : Str), ("_law_row" : Str), ("_law_wide" : Str)]
theorem sc_law : FnScope N_law [("_law_script" : Str)] (defScope s_law) := ⟨rfl, rfl, rfl, by decide +kernel, rfl, by decide +kernel, by decide +kernel⟩
def r_law (X : Cx) (W : WX) : TS :=
  (tSeq (tForO (iRg1 X (tCons (tCallG X ("max" : Str) (tCons (tC (.int 1)) (tCons (tCallG X ("min" : Str) (tCons (tC (.int 8)) (tCons (tCallG X ("len" : Str) (tCons (tVar 0) tNil)) tNil))) tNil))) tNil)) (gName 1)
    (tSeq (tAsg (tCallG X ("_law_stream" : Str) (tCons (tVar 0) (tCons (tVar 1) tNil))) (gName 2))
    (tSeq (tForO (iAny X (tLst (tCons (tCallG X ("_law_draw" : Str) (tCons (tVar 2) (tCons (tC (.int 9)) tNil))) (tCons (tCallG X ("_law_draw" : Str) (tCons (tVar 2) (tCons (tC (.int 60)) tNil))) (tCons (tCallG X ("_law_draw" : Str) (tCons (tVar 2) (tCons (tC (.int 2001)) tNil))) tNil))))) (gName 3)
      (tSeq (tAsg (tCallG X ("Row" : Str) (tCons (tIf (tTru X (tBin X (compareOp .Gt) (tVar 3) (tC (.int 0)))) (tCallG X ("_law_draw" : Str) (tCons (tVar 2) (tCons (tC (.int 2)) tNil))) (tC (.int 0))) (tCons (tBin X (binaryOp .Mult) (tLst (tCons (tBin X (binaryOp .Add) (tC (.int 1)) (tCallG X ("_law_draw" : Str) (tCons (tVar 2) (tCons (tC (.int 9)) tNil)))) tNil)) (tVar 3)) tNil))) (gName 7))
      (tForO (iAny X (tLst (tCons (tC (.str ("front" : Str))) (tCons (tC (.str ("ends" : Str))) (tCons (tC (.str ("parts" : Str))) tNil))))) (gName 4)
        (tForO (iAny X (tLst (tCons (tC (.str ("grouped" : Str))) (tCons (tC (.str ("sorted" : Str))) tNil)))) (gName 5)
          (tSeq (tAsg (tCallG X ("_law_numbers" : Str) (tCons (tVar 3) (tCons (tAtr X ("first" : Str) (tVar 7)) (tCons (tVar 4) (tCons (tVar 5) tNil))))) (gName 6))
          (tSeq (tIfS (tTru X (tBin X (compareOp .NotEq) (tCallG X ("count_best" : Str) (tCons (tVar 7) (tCons (tVar 4) (tCons (tVar 5) tNil)))) (tVar 6)))
            (tRet (tC (.bl false)))
            tNext)
          (tSeq (tIfS (tTru X (tBin X (compareOp .NotEq) (tCallG X ("list" : Str) (tCons (tCallG X ("count_best" : Str) (tCons (tVar 7) (tCons (tVar 4) (tCons (tVar 5) tNil)))) tNil)) (tCallG X ("sorted" : Str) (tCons (tVar 6) tNil))))
            (tRet (tC (.bl false)))
            tNext)
          (tIfS (tAnd (tTru X (tBin X (compareOp .NotEq) (tVar 4) (tC (.str ("parts" : Str))))) (tNot (tTru X (tCallG X ("_law_listed" : Str) (tCons (tVar 7) (tCons (tVar 4) (tCons (tVar 5) (tCons (tCallG X ("sum" : Str) (tCons (tMth X ("values" : Str) (tVar 6) tNil) tNil)) tNil))))))))
            (tRet (tC (.bl false)))
            tNext))))))))
    (tSeq (tIfS (tTru X (tBin X (compareOp .NotEq) (tLamR X ("_law_outcome" : Str) fun Y2 => (tCallG Y2 ("count_best" : Str) (tCons (tVar 7) (tCons (tC (.str ("end" : Str))) (tCons (tC .non) tNil))))) (tC (.str ("game" : Str)))))
      (tRet (tC (.bl false)))
      tNext)
    (tIfS (tTru X (tBin X (compareOp .NotEq) (tLamR X ("_law_outcome" : Str) fun Y2 => (tCallG Y2 ("best_flips" : Str) (tCons (tVar 7) (tCons (tC (.str ("ends" : Str))) (tCons (tC (.str ("sort" : Str))) tNil))))) (tC (.str ("goal" : Str)))))
      (tRet (tC (.bl false)))
      tNext)))))
  (tSeq (tAsg (tCallG X ("Row" : Str) (tCons (tC (.int 0)) (tCons (tBin X (binaryOp .Mult) (tLst (tCons (tC (.int 2)) tNil)) (tC (.int 290))) tNil))) (gName 8))
  (tSeq (tIfS (tTru X (tBin X (compareOp .NotEq) (tLamR X ("_law_outcome" : Str) fun Y2 => (tCallG Y2 ("best_flips" : Str) (tCons (tVar 8) (tCons (tC (.str ("parts" : Str))) (tCons (tC (.str ("grouped" : Str))) tNil))))) (tLst (tCons (tC (.str ("many" : Str))) (tCons (tC (.int 20000)) (tCons (tC (.bl true)) tNil))))))
    (tRet (tC (.bl false)))
    tNext)
  (tSeq (tIfS (tTru X (tBin X (compareOp .NotEq) (tLamR X ("_law_outcome" : Str) fun Y2 => (tCallG Y2 ("best_flips" : Str) (tCons (tCallG Y2 ("Row" : Str) (tCons (tC (.int 0)) (tCons (tBin Y2 (binaryOp .Mult) (tLst (tCons (tC (.int 2)) tNil)) (tC (.int 283))) tNil))) (tCons (tC (.str ("parts" : Str))) (tCons (tC (.str ("grouped" : Str))) tNil))))) (tLst (tCons (tC (.str ("many" : Str))) (tCons (tC (.int 20000)) (tCons (tC (.bl true)) tNil))))))
    (tRet (tC (.bl false)))
    tNext)
  (tRet (tBin X (compareOp .Eq) (tCallG X ("len" : Str) (tCons (tCallG X ("best_flips" : Str) (tCons (tCallG X ("Row" : Str) (tCons (tC (.int 0)) (tCons (tBin X (binaryOp .Mult) (tLst (tCons (tC (.int 2)) tNil)) (tC (.int 284))) tNil))) (tCons (tC (.str ("parts" : Str))) (tCons (tC (.str ("grouped" : Str))) tNil)))) tNil)) (tBin X (binaryOp .Mult) (tC (.int 141)) (tC (.int 141)))))))))
theorem q_law (X : Cx) (W : WX) : rdSs (rdS N_law (defScope s_law) 60 X W true) (defBody s_law) = r_law X W := by kernel_rfl
/-! ### what the top has written -/
def fa : List Fact := ([fGlo ("Flip" : Str), fKeep ("Flip" : Str), fGlo ("GAMES" : Str), fStrs ("GAMES" : Str) [("front" : Str), ("ends" : Str), ("parts" : Str)], fGlo ("GOALS" : Str), fStrs ("GOALS" : Str) [("grouped" : Str), ("sorted" : Str)], fGlo ("InvalidFlip" : Str), fKeep ("InvalidFlip" : Str), fGlo ("InvalidGame" : Str), fKeep ("InvalidGame" : Str), fGlo ("InvalidGoal" : Str), fKeep ("InvalidGoal" : Str), fGlo ("InvalidRow" : Str), fKeep ("InvalidRow" : Str), fGlo ("LimitExceeded" : Str), fKeep ("LimitExceeded" : Str), fInt ("MAX_BEST" : Str) 20000, fInt ("MAX_LENGTH" : Str) 1000000000000000000000000000000, fInt ("MAX_RUNS" : Str) 2000, fFree ("OverflowError" : Str), fGlo ("Row" : Str), fKeep ("Row" : Str), fGlo ("_law_after" : Str), fKeep ("_law_after" : Str), fGlo ("_law_cost" : Str), fKeep ("_law_cost" : Str), fGlo ("_law_draw" : Str), fKeep ("_law_draw" : Str), fGlo ("_law_listed" : Str), fKeep ("_law_listed" : Str)] : List Fact) ++ ([fGlo ("_law_numbers" : Str), fKeep ("_law_numbers" : Str), fGlo ("_law_outcome" : Str), fKeep ("_law_outcome" : Str), fGlo ("_law_stream" : Str), fKeep ("_law_stream" : Str), fFree ("all" : Str), fGlo ("best_flips" : Str), fKeep ("best_flips" : Str), fGlo ("best_kinds" : Str), fKeep ("best_kinds" : Str), fFree ("bool" : Str), fGlo ("check_game" : Str), fKeep ("check_game" : Str), fGlo ("check_goal" : Str), fKeep ("check_goal" : Str), fGlo ("check_words" : Str), fKeep ("check_words" : Str), fGlo ("count_best" : Str), fKeep ("count_best" : Str), fGlo ("flips_of_kind" : Str), fKeep ("flips_of_kind" : Str), fFree ("int" : Str), fGlo ("is_colour" : Str), fKeep ("is_colour" : Str), fGlo ("is_count" : Str), fKeep ("is_count" : Str), fGlo ("is_number" : Str), fKeep ("is_number" : Str), fFree ("isinstance" : Str)] : List Fact) ++ ([fGlo ("kinds_of_game" : Str), fKeep ("kinds_of_game" : Str), fFree ("len" : Str), fFree ("list" : Str), fFree ("max" : Str), fFree ("min" : Str), fGlo ("numbers_by_kind" : Str), fKeep ("numbers_by_kind" : Str), fGlo ("plain_best_flips" : Str), fKeep ("plain_best_flips" : Str), fGlo ("plain_cost" : Str), fKeep ("plain_cost" : Str), fFree ("range" : Str), fFree ("sorted" : Str), fGlo ("sorting_cost" : Str), fKeep ("sorting_cost" : Str), fGlo ("state_after" : Str), fKeep ("state_after" : Str), fFree ("str" : Str), fFree ("sum" : Str), fCls ("Row" : Str), fIns ("Row" : Str), fMkr ("Row" : Str), fSelf ("Row" : Str), fNoat ("Row" : Str) ("colour" : Str), fNoat ("Row" : Str) ("sizes" : Str), fMeth ("Row" : Str) ("__init__" : Str), fProp ("Row" : Str) ("first" : Str), fProp ("Row" : Str) ("last" : Str), fProp ("Row" : Str) ("lengths" : Str)] : List Fact) ++ ([fProp ("Row" : Str) ("runs" : Str), fProp ("Row" : Str) ("length" : Str), fMeth ("Row" : Str) ("__eq__" : Str), fMeth ("Row" : Str) ("__bool__" : Str), fMeth ("Row" : Str) ("__iter__" : Str), fMeth ("Row" : Str) ("__getitem__" : Str), fMeth ("Row" : Str) ("__add__" : Str), fMeth ("Row" : Str) ("__mul__" : Str), fMeth ("Row" : Str) ("__invert__" : Str), fMeth ("Row" : Str) ("__neg__" : Str), fMeth ("Row" : Str) ("part" : Str), fMeth ("Row" : Str) ("count" : Str), fMeth ("Row" : Str) ("borders" : Str), fNe ("Row" : Str), fNsub "NoneType" ("Row" : Str), fNsub "int" ("Row" : Str), fNsub "bool" ("Row" : Str), fNsub "list" ("Row" : Str), fNsub "str" ("Row" : Str), fNsub "tuple" ("Row" : Str), fNsub "dict" ("Row" : Str), fNsubC ("Flip" : Str) ("Row" : Str), fKitO ("Row" : Str) "int" false, fKitO ("Row" : Str) "bool" false, fKitO ("Row" : Str) "list" false, fKitO ("Row" : Str) "str" false, fKitO ("Row" : Str) "tuple" false, fKitO ("Row" : Str) "dict" false, fKitT "int" ("Row" : Str) false, fKitT "bool" ("Row" : Str) false] : List Fact) ++ ([fKitT "list" ("Row" : Str) false, fKitT "str" ("Row" : Str) false, fKitT "tuple" ("Row" : Str) false, fKitT "dict" ("Row" : Str) false, fKitT "NoneType" ("Row" : Str) false, fKit ("Row" : Str) ("Row" : Str) true, fKit ("Row" : Str) ("Flip" : Str) false, fCls ("Flip" : Str), fIns ("Flip" : Str), fMkr ("Flip" : Str), fSelf ("Flip" : Str), fCallO ("Flip" : Str), fNoat ("Flip" : Str) ("begin" : Str), fNoat ("Flip" : Str) ("finish" : Str), fMeth ("Flip" : Str) ("__init__" : Str), fProp ("Flip" : Str) ("start" : Str), fProp ("Flip" : Str) ("end" : Str), fMeth ("Flip" : Str) ("__eq__" : Str), fMeth ("Flip" : Str) ("check" : Str), fMeth ("Flip" : Str) ("__call__" : Str), fMeth ("Flip" : Str) ("is_whole" : Str), fMeth ("Flip" : Str) ("change" : Str), fNe ("Flip" : Str), fNsub "NoneType" ("Flip" : Str), fNsub "int" ("Flip" : Str), fNsub "bool" ("Flip" : Str), fNsub "list" ("Flip" : Str), fNsub "str" ("Flip" : Str), fNsub "tuple" ("Flip" : Str), fNsub "dict" ("Flip" : Str)] : List Fact) ++ ([fNsubC ("Row" : Str) ("Flip" : Str), fKitO ("Flip" : Str) "int" false, fKitO ("Flip" : Str) "bool" false, fKitO ("Flip" : Str) "list" false, fKitO ("Flip" : Str) "str" false, fKitO ("Flip" : Str) "tuple" false, fKitO ("Flip" : Str) "dict" false, fKitT "int" ("Flip" : Str) false, fKitT "bool" ("Flip" : Str) false, fKitT "list" ("Flip" : Str) false, fKitT "str" ("Flip" : Str) false, fKitT "tuple" ("Flip" : Str) false, fKitT "dict" ("Flip" : Str) false, fKitT "NoneType" ("Flip" : Str) false, fKit ("Flip" : Str) ("Row" : Str) false, fKit ("Flip" : Str) ("Flip" : Str) true, fExc ("InvalidRow" : Str) [.type "ValueError", .type "Exception", .type "BaseException", .type "object"] "ValueError.__new__", fExcC ("InvalidRow" : Str), fExc ("InvalidFlip" : Str) [.type "ValueError", .type "Exception", .type "BaseException", .type "object"] "ValueError.__new__", fExcC ("InvalidFlip" : Str), fExc ("InvalidGame" : Str) [.type "ValueError", .type "Exception", .type "BaseException", .type "object"] "ValueError.__new__", fExcC ("InvalidGame" : Str), fExc ("InvalidGoal" : Str) [.type "ValueError", .type "Exception", .type "BaseException", .type "object"] "ValueError.__new__", fExcC ("InvalidGoal" : Str), fExi ("LimitExceeded" : Str) [.type "OverflowError", .type "ArithmeticError", .type "Exception", .type "BaseException", .type "object"] "OverflowError" "OverflowError.__new__" "OverflowError.__init__" ("limit" : Str) ("limit" : Str), fExcC ("LimitExceeded" : Str), fXf ("LimitExceeded" : Str), fExm ("InvalidRow" : Str) ("InvalidGame" : Str) false, fExm ("InvalidRow" : Str) ("InvalidGoal" : Str) false, fExm ("InvalidRow" : Str) ("LimitExceeded" : Str) false] : List Fact) ++ ([fExm ("InvalidFlip" : Str) ("InvalidGame" : Str) false, fExm ("InvalidFlip" : Str) ("InvalidGoal" : Str) false, fExm ("InvalidFlip" : Str) ("LimitExceeded" : Str) false, fExm ("InvalidGame" : Str) ("InvalidGame" : Str) true, fExm ("InvalidGame" : Str) ("InvalidGoal" : Str) false, fExm ("InvalidGame" : Str) ("LimitExceeded" : Str) false, fExm ("InvalidGoal" : Str) ("InvalidGame" : Str) false, fExm ("InvalidGoal" : Str) ("InvalidGoal" : Str) true, fExm ("InvalidGoal" : Str) ("LimitExceeded" : Str) false, fExm ("LimitExceeded" : Str) ("InvalidGame" : Str) false, fExm ("LimitExceeded" : Str) ("InvalidGoal" : Str) false, fExm ("LimitExceeded" : Str) ("LimitExceeded" : Str) true, fKitO ("InvalidRow" : Str) "OverflowError" false, fKitO ("InvalidFlip" : Str) "OverflowError" false, fKitO ("InvalidGame" : Str) "OverflowError" false, fKitO ("InvalidGoal" : Str) "OverflowError" false, fKitO ("LimitExceeded" : Str) "OverflowError" true, fKit ("InvalidRow" : Str) ("InvalidRow" : Str) true, fKit ("InvalidRow" : Str) ("InvalidFlip" : Str) false, fKit ("InvalidRow" : Str) ("InvalidGame" : Str) false, fKit ("InvalidRow" : Str) ("InvalidGoal" : Str) false, fKit ("InvalidRow" : Str) ("LimitExceeded" : Str) false, fKit ("InvalidFlip" : Str) ("InvalidRow" : Str) false, fKit ("InvalidFlip" : Str) ("InvalidFlip" : Str) true, fKit ("InvalidFlip" : Str) ("InvalidGame" : Str) false, fKit ("InvalidFlip" : Str) ("InvalidGoal" : Str) false, fKit ("InvalidFlip" : Str) ("LimitExceeded" : Str) false, fKit ("InvalidGame" : Str) ("InvalidRow" : Str) false, fKit ("InvalidGame" : Str) ("InvalidFlip" : Str) false, fKit ("InvalidGame" : Str) ("InvalidGame" : Str) true] : List Fact) ++ ([fKit ("InvalidGame" : Str) ("InvalidGoal" : Str) false, fKit ("InvalidGame" : Str) ("LimitExceeded" : Str) false, fKit ("InvalidGoal" : Str) ("InvalidRow" : Str) false, fKit ("InvalidGoal" : Str) ("InvalidFlip" : Str) false, fKit ("InvalidGoal" : Str) ("InvalidGame" : Str) false, fKit ("InvalidGoal" : Str) ("InvalidGoal" : Str) true, fKit ("InvalidGoal" : Str) ("LimitExceeded" : Str) false, fKit ("LimitExceeded" : Str) ("InvalidRow" : Str) false, fKit ("LimitExceeded" : Str) ("InvalidFlip" : Str) false, fKit ("LimitExceeded" : Str) ("InvalidGame" : Str) false, fKit ("LimitExceeded" : Str) ("InvalidGoal" : Str) false, fKit ("LimitExceeded" : Str) ("LimitExceeded" : Str) true, fTne ("plain_best_flips" : Str) ("law" : Str), fTne ("law" : Str) ("plain_best_flips" : Str), fGlo ("law" : Str)] : List Fact)
def fn : List DV := ([⟨fun K => He.ga K ("is_number" : Str), ("is_number" : Str), ("is_number" : Str), s_is_number⟩,
  ⟨fun K => He.ga K ("is_count" : Str), ("is_count" : Str), ("is_count" : Str), s_is_count⟩,
  ⟨fun K => He.ga K ("is_colour" : Str), ("is_colour" : Str), ("is_colour" : Str), s_is_colour⟩,
  ⟨fun K => He.ga K ("joined" : Str), ("joined" : Str), ("joined" : Str), s_joined⟩,
  ⟨fun K => He.ma K (He.ga K ("Row" : Str)) ("__init__" : Str), ("__init__" : Str), ("Row.__init__" : Str), s_Row_init⟩,
  ⟨fun K => pga K ("Row" : Str) ("first" : Str), ("first" : Str), ("Row.first" : Str), s_Row_first⟩,
  ⟨fun K => pga K ("Row" : Str) ("runs" : Str), ("runs" : Str), ("Row.runs" : Str), s_Row_runs⟩,
  ⟨fun K => He.ma K (He.ga K ("Row" : Str)) ("borders" : Str), ("borders" : Str), ("Row.borders" : Str), s_Row_borders⟩,
  ⟨fun K => He.ga K ("check_game" : Str), ("check_game" : Str), ("check_game" : Str), s_check_game⟩,
  ⟨fun K => He.ma K (He.ga K ("Flip" : Str)) ("__init__" : Str), ("__init__" : Str), ("Flip.__init__" : Str), s_Flip_init⟩,
  ⟨fun K => pga K ("Flip" : Str) ("start" : Str), ("start" : Str), ("Flip.start" : Str), s_Flip_start⟩,
  ⟨fun K => pga K ("Flip" : Str) ("end" : Str), ("end" : Str), ("Flip.end" : Str), s_Flip_end⟩,
  ⟨fun K => He.ga K ("check_goal" : Str), ("check_goal" : Str), ("check_goal" : Str), s_check_goal⟩,
  ⟨fun K => He.ga K ("check_words" : Str), ("check_words" : Str), ("check_words" : Str), s_check_words⟩,
  ⟨fun K => He.ga K ("sorting_cost" : Str), ("sorting_cost" : Str), ("sorting_cost" : Str), s_sorting_cost⟩,
  ⟨fun K => He.ga K ("plain_cost" : Str), ("plain_cost" : Str), ("plain_cost" : Str), s_plain_cost⟩,
  ⟨fun K => He.ga K ("numbers_by_kind" : Str), ("numbers_by_kind" : Str), ("numbers_by_kind" : Str), s_numbers_by_kind⟩,
  ⟨fun K => He.ga K ("state_after" : Str), ("state_after" : Str), ("state_after" : Str), s_state_after⟩,
  ⟨fun K => He.ga K ("kinds_of_game" : Str), ("kinds_of_game" : Str), ("kinds_of_game" : Str), s_kinds_of_game⟩,
  ⟨fun K => He.ga K ("best_kinds" : Str), ("best_kinds" : Str), ("best_kinds" : Str), s_best_kinds⟩] : List DV) ++ ([⟨fun K => He.ga K ("count_best" : Str), ("count_best" : Str), ("count_best" : Str), s_count_best⟩,
  ⟨fun K => He.ga K ("flips_of_kind" : Str), ("flips_of_kind" : Str), ("flips_of_kind" : Str), s_flips_of_kind⟩,
  ⟨fun K => He.ga K ("plain_best_flips" : Str), ("plain_best_flips" : Str), ("plain_best_flips" : Str), s_plain_best_flips⟩,
  ⟨fun K => He.ga K ("best_flips" : Str), ("best_flips" : Str), ("best_flips" : Str), s_best_flips⟩,
  ⟨fun K => He.ga K ("_law_stream" : Str), ("_law_stream" : Str), ("_law_stream" : Str), s__law_stream⟩,
  ⟨fun K => He.ga K ("_law_draw" : Str), ("_law_draw" : Str), ("_law_draw" : Str), s__law_draw⟩,
  ⟨fun K => He.ga K ("_law_cost" : Str), ("_law_cost" : Str), ("_law_cost" : Str), s__law_cost⟩,
  ⟨fun K => He.ga K ("_law_after" : Str), ("_law_after" : Str), ("_law_after" : Str), s__law_after⟩,
  ⟨fun K => He.ga K ("_law_numbers" : Str), ("_law_numbers" : Str), ("_law_numbers" : Str), s__law_numbers⟩,
  ⟨fun K => He.ga K ("_law_outcome" : Str), ("_law_outcome" : Str), ("_law_outcome" : Str), s__law_outcome⟩,
  ⟨fun K => He.ga K ("_law_listed" : Str), ("_law_listed" : Str), ("_law_listed" : Str), s__law_listed⟩,
  ⟨fun K => He.ga K ("law" : Str), ("law" : Str), ("law" : Str), s_law⟩] : List DV)
abbrev TX (K : PySem.W.Frag) (mg : Str → Option Value) : Prop := Txt fa fn K mg
section
variable {P : Program} {w : World} {K : PySem.W.Frag} {mg : Str → Option Value} {base : Heap} {k : Nat} {X : Cx} {W : WX}
theorem g_Flip (T : TX K mg) (C : Ctx P w K mg base k X W) : Cal X ("Flip" : Str) (.ref (He.ga K ("Flip" : Str))) := .own (by rw [C.m]; exact T.glo (T.c.fact 0)) (by rw [C.K]; exact T.c.fact 1)
theorem m_Flip (T : TX K mg) (C : Ctx P w K mg base k X W) : X.mg ("Flip" : Str) = some (.ref (He.ga K ("Flip" : Str))) := by rw [C.m]; exact T.glo (T.c.fact 0)
theorem m_GAMES (T : TX K mg) (C : Ctx P w K mg base k X W) : X.mg ("GAMES" : Str) = some (.ref (He.ga K ("GAMES" : Str))) := by rw [C.m]; exact T.glo (T.c.fact 2)
theorem l_GAMES (T : TX K mg) (H : Hp) : SqL K H (He.ga K ("GAMES" : Str)) (([("front" : Str), ("ends" : Str), ("parts" : Str)]).map V.str) := strs_of (T.c.fact 3) H
theorem m_GOALS (T : TX K mg) (C : Ctx P w K mg base k X W) : X.mg ("GOALS" : Str) = some (.ref (He.ga K ("GOALS" : Str))) := by rw [C.m]; exact T.glo (T.c.fact 4)
theorem l_GOALS (T : TX K mg) (H : Hp) : SqL K H (He.ga K ("GOALS" : Str)) (([("grouped" : Str), ("sorted" : Str)]).map V.str) := strs_of (T.c.fact 5) H
theorem g_InvalidFlip (T : TX K mg) (C : Ctx P w K mg base k X W) : Cal X ("InvalidFlip" : Str) (.ref (He.ga K ("InvalidFlip" : Str))) := .own (by rw [C.m]; exact T.glo (T.c.fact 6)) (by rw [C.K]; exact T.c.fact 7)
theorem m_InvalidFlip (T : TX K mg) (C : Ctx P w K mg base k X W) : X.mg ("InvalidFlip" : Str) = some (.ref (He.ga K ("InvalidFlip" : Str))) := by rw [C.m]; exact T.glo (T.c.fact 6)
theorem g_InvalidGame (T : TX K mg) (C : Ctx P w K mg base k X W) : Cal X ("InvalidGame" : Str) (.ref (He.ga K ("InvalidGame" : Str))) := .own (by rw [C.m]; exact T.glo (T.c.fact 8)) (by rw [C.K]; exact T.c.fact 9)
theorem m_InvalidGame (T : TX K mg) (C : Ctx P w K mg base k X W) : X.mg ("InvalidGame" : Str) = some (.ref (He.ga K ("InvalidGame" : Str))) := by rw [C.m]; exact T.glo (T.c.fact 8)
theorem g_InvalidGoal (T : TX K mg) (C : Ctx P w K mg base k X W) : Cal X ("InvalidGoal" : Str) (.ref (He.ga K ("InvalidGoal" : Str))) := .own (by rw [C.m]; exact T.glo (T.c.fact 10)) (by rw [C.K]; exact T.c.fact 11)
theorem m_InvalidGoal (T : TX K mg) (C : Ctx P w K mg base k X W) : X.mg ("InvalidGoal" : Str) = some (.ref (He.ga K ("InvalidGoal" : Str))) := by rw [C.m]; exact T.glo (T.c.fact 10)
theorem g_InvalidRow (T : TX K mg) (C : Ctx P w K mg base k X W) : Cal X ("InvalidRow" : Str) (.ref (He.ga K ("InvalidRow" : Str))) := .own (by rw [C.m]; exact T.glo (T.c.fact 12)) (by rw [C.K]; exact T.c.fact 13)
theorem m_InvalidRow (T : TX K mg) (C : Ctx P w K mg base k X W) : X.mg ("InvalidRow" : Str) = some (.ref (He.ga K ("InvalidRow" : Str))) := by rw [C.m]; exact T.glo (T.c.fact 12)
theorem g_LimitExceeded (T : TX K mg) (C : Ctx P w K mg base k X W) : Cal X ("LimitExceeded" : Str) (.ref (He.ga K ("LimitExceeded" : Str))) := .own (by rw [C.m]; exact T.glo (T.c.fact 14)) (by rw [C.K]; exact T.c.fact 15)
theorem m_LimitExceeded (T : TX K mg) (C : Ctx P w K mg base k X W) : X.mg ("LimitExceeded" : Str) = some (.ref (He.ga K ("LimitExceeded" : Str))) := by rw [C.m]; exact T.glo (T.c.fact 14)
theorem v_MAX_BEST (T : TX K mg) (C : Ctx P w K mg base k X W) : ∃ t, X.mg ("MAX_BEST" : Str) = some (.int 20000 t) := by rw [C.m]; exact T.int (T.c.fact 16)
theorem v_MAX_LENGTH (T : TX K mg) (C : Ctx P w K mg base k X W) : ∃ t, X.mg ("MAX_LENGTH" : Str) = some (.int 1000000000000000000000000000000 t) := by rw [C.m]; exact T.int (T.c.fact 17)
theorem v_MAX_RUNS (T : TX K mg) (C : Ctx P w K mg base k X W) : ∃ t, X.mg ("MAX_RUNS" : Str) = some (.int 2000 t) := by rw [C.m]; exact T.int (T.c.fact 18)
theorem g_OverflowError (T : TX K mg) (C : Ctx P w K mg base k X W) : Cal X ("OverflowError" : Str) (.type "OverflowError") := .typ (by rw [C.m]; exact T.free (T.c.fact 19)) (by decide +kernel)
theorem m_OverflowError (T : TX K mg) (C : Ctx P w K mg base k X W) : X.mg ("OverflowError" : Str) = none := by rw [C.m]; exact T.free (T.c.fact 19)
theorem g_Row (T : TX K mg) (C : Ctx P w K mg base k X W) : Cal X ("Row" : Str) (.ref (He.ga K ("Row" : Str))) := .own (by rw [C.m]; exact T.glo (T.c.fact 20)) (by rw [C.K]; exact T.c.fact 21)
theorem m_Row (T : TX K mg) (C : Ctx P w K mg base k X W) : X.mg ("Row" : Str) = some (.ref (He.ga K ("Row" : Str))) := by rw [C.m]; exact T.glo (T.c.fact 20)
theorem g__law_after (T : TX K mg) (C : Ctx P w K mg base k X W) : Cal X ("_law_after" : Str) (.ref (He.ga K ("_law_after" : Str))) := .own (by rw [C.m]; exact T.glo (T.c.fact 22)) (by rw [C.K]; exact T.c.fact 23)
theorem m__law_after (T : TX K mg) (C : Ctx P w K mg base k X W) : X.mg ("_law_after" : Str) = some (.ref (He.ga K ("_law_after" : Str))) := by rw [C.m]; exact T.glo (T.c.fact 22)
theorem g__law_cost (T : TX K mg) (C : Ctx P w K mg base k X W) : Cal X ("_law_cost" : Str) (.ref (He.ga K ("_law_cost" : Str))) := .own (by rw [C.m]; exact T.glo (T.c.fact 24)) (by rw [C.K]; exact T.c.fact 25)
theorem m__law_cost (T : TX K mg) (C : Ctx P w K mg base k X W) : X.mg ("_law_cost" : Str) = some (.ref (He.ga K ("_law_cost" : Str))) := by rw [C.m]; exact T.glo (T.c.fact 24)
theorem g__law_draw (T : TX K mg) (C : Ctx P w K mg base k X W) : Cal X ("_law_draw" : Str) (.ref (He.ga K ("_law_draw" : Str))) := .own (by rw [C.m]; exact T.glo (T.c.fact 26)) (by rw [C.K]; exact T.c.fact 27)
theorem m__law_draw (T : TX K mg) (C : Ctx P w K mg base k X W) : X.mg ("_law_draw" : Str) = some (.ref (He.ga K ("_law_draw" : Str))) := by rw [C.m]; exact T.glo (T.c.fact 26)
theorem g__law_listed (T : TX K mg) (C : Ctx P w K mg base k X W) : Cal X ("_law_listed" : Str) (.ref (He.ga K ("_law_listed" : Str))) := .own (by rw [C.m]; exact T.glo (T.c.fact 28)) (by rw [C.K]; exact T.c.fact 29)
theorem m__law_listed (T : TX K mg) (C : Ctx P w K mg base k X W) : X.mg ("_law_listed" : Str) = some (.ref (He.ga K ("_law_listed" : Str))) := by rw [C.m]; exact T.glo (T.c.fact 28)
theorem g__law_numbers (T : TX K mg) (C : Ctx P w K mg base k X W) : Cal X ("_law_numbers" : Str) (.ref (He.ga K ("_law_numbers" : Str))) := .own (by rw [C.m]; exact T.glo (T.c.fact 30)) (by rw [C.K]; exact T.c.fact 31)
theorem m__law_numbers (T : TX K mg) (C : Ctx P w K mg base k X W) : X.mg ("_law_numbers" : Str) = some (.ref (He.ga K ("_law_numbers" : Str))) := by rw [C.m]; exact T.glo (T.c.fact 30)
theorem g__law_outcome (T : TX K mg) (C : Ctx P w K mg base k X W) : Cal X ("_law_outcome" : Str) (.ref (He.ga K ("_law_outcome" : Str))) := .own (by rw [C.m]; exact T.glo (T.c.fact 32)) (by rw [C.K]; exact T.c.fact 33)
theorem m__law_outcome (T : TX K mg) (C : Ctx P w K mg base k X W) : X.mg ("_law_outcome" : Str) = some (.ref (He.ga K ("_law_outcome" : Str))) := by rw [C.m]; exact T.glo (T.c.fact 32)
theorem g__law_stream (T : TX K mg) (C : Ctx P w K mg base k X W) : Cal X ("_law_stream" : Str) (.ref (He.ga K ("_law_stream" : Str))) := .own (by rw [C.m]; exact T.glo (T.c.fact 34)) (by rw [C.K]; exact T.c.fact 35)
theorem m__law_stream (T : TX K mg) (C : Ctx P w K mg base k X W) : X.mg ("_law_stream" : Str) = some (.ref (He.ga K ("_law_stream" : Str))) := by rw [C.m]; exact T.glo (T.c.fact 34)
theorem g_all (T : TX K mg) (C : Ctx P w K mg base k X W) : Cal X ("all" : Str) (.builtin "all") := .blt (by rw [C.m]; exact T.free (T.c.fact 36)) (by decide +kernel)
theorem m_all (T : TX K mg) (C : Ctx P w K mg base k X W) : X.mg ("all" : Str) = none := by rw [C.m]; exact T.free (T.c.fact 36)
theorem g_best_flips (T : TX K mg) (C : Ctx P w K mg base k X W) : Cal X ("best_flips" : Str) (.ref (He.ga K ("best_flips" : Str))) := .own (by rw [C.m]; exact T.glo (T.c.fact 37)) (by rw [C.K]; exact T.c.fact 38)
theorem m_best_flips (T : TX K mg) (C : Ctx P w K mg base k X W) : X.mg ("best_flips" : Str) = some (.ref (He.ga K ("best_flips" : Str))) := by rw [C.m]; exact T.glo (T.c.fact 37)
theorem g_best_kinds (T : TX K mg) (C : Ctx P w K mg base k X W) : Cal X ("best_kinds" : Str) (.ref (He.ga K ("best_kinds" : Str))) := .own (by rw [C.m]; exact T.glo (T.c.fact 39)) (by rw [C.K]; exact T.c.fact 40)
theorem m_best_kinds (T : TX K mg) (C : Ctx P w K mg base k X W) : X.mg ("best_kinds" : Str) = some (.ref (He.ga K ("best_kinds" : Str))) := by rw [C.m]; exact T.glo (T.c.fact 39)
theorem g_bool (T : TX K mg) (C : Ctx P w K mg base k X W) : Cal X ("bool" : Str) (.type "bool") := .typ (by rw [C.m]; exact T.free (T.c.fact 41)) (by decide +kernel)
theorem m_bool (T : TX K mg) (C : Ctx P w K mg base k X W) : X.mg ("bool" : Str) = none := by rw [C.m]; exact T.free (T.c.fact 41)
theorem g_check_game (T : TX K mg) (C : Ctx P w K mg base k X W) : Cal X ("check_game" : Str) (.ref (He.ga K ("check_game" : Str))) := .own (by rw [C.m]; exact T.glo (T.c.fact 42)) (by rw [C.K]; exact T.c.fact 43)
theorem m_check_game (T : TX K mg) (C : Ctx P w K mg base k X W) : X.mg ("check_game" : Str) = some (.ref (He.ga K ("check_game" : Str))) := by rw [C.m]; exact T.glo (T.c.fact 42)
theorem g_check_goal (T : TX K mg) (C : Ctx P w K mg base k X W) : Cal X ("check_goal" : Str) (.ref (He.ga K ("check_goal" : Str))) := .own (by rw [C.m]; exact T.glo (T.c.fact 44)) (by rw [C.K]; exact T.c.fact 45)
theorem m_check_goal (T : TX K mg) (C : Ctx P w K mg base k X W) : X.mg ("check_goal" : Str) = some (.ref (He.ga K ("check_goal" : Str))) := by rw [C.m]; exact T.glo (T.c.fact 44)
theorem g_check_words (T : TX K mg) (C : Ctx P w K mg base k X W) : Cal X ("check_words" : Str) (.ref (He.ga K ("check_words" : Str))) := .own (by rw [C.m]; exact T.glo (T.c.fact 46)) (by rw [C.K]; exact T.c.fact 47)
theorem m_check_words (T : TX K mg) (C : Ctx P w K mg base k X W) : X.mg ("check_words" : Str) = some (.ref (He.ga K ("check_words" : Str))) := by rw [C.m]; exact T.glo (T.c.fact 46)
theorem g_count_best (T : TX K mg) (C : Ctx P w K mg base k X W) : Cal X ("count_best" : Str) (.ref (He.ga K ("count_best" : Str))) := .own (by rw [C.m]; exact T.glo (T.c.fact 48)) (by rw [C.K]; exact T.c.fact 49)
theorem m_count_best (T : TX K mg) (C : Ctx P w K mg base k X W) : X.mg ("count_best" : Str) = some (.ref (He.ga K ("count_best" : Str))) := by rw [C.m]; exact T.glo (T.c.fact 48)
theorem g_flips_of_kind (T : TX K mg) (C : Ctx P w K mg base k X W) : Cal X ("flips_of_kind" : Str) (.ref (He.ga K ("flips_of_kind" : Str))) := .own (by rw [C.m]; exact T.glo (T.c.fact 50)) (by rw [C.K]; exact T.c.fact 51)
theorem m_flips_of_kind (T : TX K mg) (C : Ctx P w K mg base k X W) : X.mg ("flips_of_kind" : Str) = some (.ref (He.ga K ("flips_of_kind" : Str))) := by rw [C.m]; exact T.glo (T.c.fact 50)
theorem g_int (T : TX K mg) (C : Ctx P w K mg base k X W) : Cal X ("int" : Str) (.type "int") := .typ (by rw [C.m]; exact T.free (T.c.fact 52)) (by decide +kernel)
theorem m_int (T : TX K mg) (C : Ctx P w K mg base k X W) : X.mg ("int" : Str) = none := by rw [C.m]; exact T.free (T.c.fact 52)
theorem g_is_colour (T : TX K mg) (C : Ctx P w K mg base k X W) : Cal X ("is_colour" : Str) (.ref (He.ga K ("is_colour" : Str))) := .own (by rw [C.m]; exact T.glo (T.c.fact 53)) (by rw [C.K]; exact T.c.fact 54)
theorem m_is_colour (T : TX K mg) (C : Ctx P w K mg base k X W) : X.mg ("is_colour" : Str) = some (.ref (He.ga K ("is_colour" : Str))) := by rw [C.m]; exact T.glo (T.c.fact 53)
theorem g_is_count (T : TX K mg) (C : Ctx P w K mg base k X W) : Cal X ("is_count" : Str) (.ref (He.ga K ("is_count" : Str))) := .own (by rw [C.m]; exact T.glo (T.c.fact 55)) (by rw [C.K]; exact T.c.fact 56)
theorem m_is_count (T : TX K mg) (C : Ctx P w K mg base k X W) : X.mg ("is_count" : Str) = some (.ref (He.ga K ("is_count" : Str))) := by rw [C.m]; exact T.glo (T.c.fact 55)
theorem g_is_number (T : TX K mg) (C : Ctx P w K mg base k X W) : Cal X ("is_number" : Str) (.ref (He.ga K ("is_number" : Str))) := .own (by rw [C.m]; exact T.glo (T.c.fact 57)) (by rw [C.K]; exact T.c.fact 58)
theorem m_is_number (T : TX K mg) (C : Ctx P w K mg base k X W) : X.mg ("is_number" : Str) = some (.ref (He.ga K ("is_number" : Str))) := by rw [C.m]; exact T.glo (T.c.fact 57)
theorem g_isinstance (T : TX K mg) (C : Ctx P w K mg base k X W) : Cal X ("isinstance" : Str) (.builtin "isinstance") := .blt (by rw [C.m]; exact T.free (T.c.fact 59)) (by decide +kernel)
theorem m_isinstance (T : TX K mg) (C : Ctx P w K mg base k X W) : X.mg ("isinstance" : Str) = none := by rw [C.m]; exact T.free (T.c.fact 59)
theorem g_kinds_of_game (T : TX K mg) (C : Ctx P w K mg base k X W) : Cal X ("kinds_of_game" : Str) (.ref (He.ga K ("kinds_of_game" : Str))) := .own (by rw [C.m]; exact T.glo (T.c.fact 60)) (by rw [C.K]; exact T.c.fact 61)
theorem m_kinds_of_game (T : TX K mg) (C : Ctx P w K mg base k X W) : X.mg ("kinds_of_game" : Str) = some (.ref (He.ga K ("kinds_of_game" : Str))) := by rw [C.m]; exact T.glo (T.c.fact 60)
theorem g_len (T : TX K mg) (C : Ctx P w K mg base k X W) : Cal X ("len" : Str) (.builtin "len") := .blt (by rw [C.m]; exact T.free (T.c.fact 62)) (by decide +kernel)
theorem m_len (T : TX K mg) (C : Ctx P w K mg base k X W) : X.mg ("len" : Str) = none := by rw [C.m]; exact T.free (T.c.fact 62)
theorem g_list (T : TX K mg) (C : Ctx P w K mg base k X W) : Cal X ("list" : Str) (.type "list") := .typ (by rw [C.m]; exact T.free (T.c.fact 63)) (by decide +kernel)
theorem m_list (T : TX K mg) (C : Ctx P w K mg base k X W) : X.mg ("list" : Str) = none := by rw [C.m]; exact T.free (T.c.fact 63)
theorem g_max (T : TX K mg) (C : Ctx P w K mg base k X W) : Cal X ("max" : Str) (.builtin "max") := .blt (by rw [C.m]; exact T.free (T.c.fact 64)) (by decide +kernel)
theorem m_max (T : TX K mg) (C : Ctx P w K mg base k X W) : X.mg ("max" : Str) = none := by rw [C.m]; exact T.free (T.c.fact 64)
theorem g_min (T : TX K mg) (C : Ctx P w K mg base k X W) : Cal X ("min" : Str) (.builtin "min") := .blt (by rw [C.m]; exact T.free (T.c.fact 65)) (by decide +kernel)
theorem m_min (T : TX K mg) (C : Ctx P w K mg base k X W) : X.mg ("min" : Str) = none := by rw [C.m]; exact T.free (T.c.fact 65)
theorem g_numbers_by_kind (T : TX K mg) (C : Ctx P w K mg base k X W) : Cal X ("numbers_by_kind" : Str) (.ref (He.ga K ("numbers_by_kind" : Str))) := .own (by rw [C.m]; exact T.glo (T.c.fact 66)) (by rw [C.K]; exact T.c.fact 67)
theorem m_numbers_by_kind (T : TX K mg) (C : Ctx P w K mg base k X W) : X.mg ("numbers_by_kind" : Str) = some (.ref (He.ga K ("numbers_by_kind" : Str))) := by rw [C.m]; exact T.glo (T.c.fact 66)
theorem g_plain_best_flips (T : TX K mg) (C : Ctx P w K mg base k X W) : Cal X ("plain_best_flips" : Str) (.ref (He.ga K ("plain_best_flips" : Str))) := .own (by rw [C.m]; exact T.glo (T.c.fact 68)) (by rw [C.K]; exact T.c.fact 69)
theorem m_plain_best_flips (T : TX K mg) (C : Ctx P w K mg base k X W) : X.mg ("plain_best_flips" : Str) = some (.ref (He.ga K ("plain_best_flips" : Str))) := by rw [C.m]; exact T.glo (T.c.fact 68)
theorem g_plain_cost (T : TX K mg) (C : Ctx P w K mg base k X W) : Cal X ("plain_cost" : Str) (.ref (He.ga K ("plain_cost" : Str))) := .own (by rw [C.m]; exact T.glo (T.c.fact 70)) (by rw [C.K]; exact T.c.fact 71)
theorem m_plain_cost (T : TX K mg) (C : Ctx P w K mg base k X W) : X.mg ("plain_cost" : Str) = some (.ref (He.ga K ("plain_cost" : Str))) := by rw [C.m]; exact T.glo (T.c.fact 70)
theorem g_range (T : TX K mg) (C : Ctx P w K mg base k X W) : Cal X ("range" : Str) (.type "range") := .typ (by rw [C.m]; exact T.free (T.c.fact 72)) (by decide +kernel)
theorem m_range (T : TX K mg) (C : Ctx P w K mg base k X W) : X.mg ("range" : Str) = none := by rw [C.m]; exact T.free (T.c.fact 72)
theorem g_sorted (T : TX K mg) (C : Ctx P w K mg base k X W) : Cal X ("sorted" : Str) (.builtin "sorted") := .blt (by rw [C.m]; exact T.free (T.c.fact 73)) (by decide +kernel)
theorem m_sorted (T : TX K mg) (C : Ctx P w K mg base k X W) : X.mg ("sorted" : Str) = none := by rw [C.m]; exact T.free (T.c.fact 73)
theorem g_sorting_cost (T : TX K mg) (C : Ctx P w K mg base k X W) : Cal X ("sorting_cost" : Str) (.ref (He.ga K ("sorting_cost" : Str))) := .own (by rw [C.m]; exact T.glo (T.c.fact 74)) (by rw [C.K]; exact T.c.fact 75)
theorem m_sorting_cost (T : TX K mg) (C : Ctx P w K mg base k X W) : X.mg ("sorting_cost" : Str) = some (.ref (He.ga K ("sorting_cost" : Str))) := by rw [C.m]; exact T.glo (T.c.fact 74)
theorem g_state_after (T : TX K mg) (C : Ctx P w K mg base k X W) : Cal X ("state_after" : Str) (.ref (He.ga K ("state_after" : Str))) := .own (by rw [C.m]; exact T.glo (T.c.fact 76)) (by rw [C.K]; exact T.c.fact 77)
theorem m_state_after (T : TX K mg) (C : Ctx P w K mg base k X W) : X.mg ("state_after" : Str) = some (.ref (He.ga K ("state_after" : Str))) := by rw [C.m]; exact T.glo (T.c.fact 76)
theorem g_str (T : TX K mg) (C : Ctx P w K mg base k X W) : Cal X ("str" : Str) (.type "str") := .typ (by rw [C.m]; exact T.free (T.c.fact 78)) (by decide +kernel)
theorem m_str (T : TX K mg) (C : Ctx P w K mg base k X W) : X.mg ("str" : Str) = none := by rw [C.m]; exact T.free (T.c.fact 78)
theorem g_sum (T : TX K mg) (C : Ctx P w K mg base k X W) : Cal X ("sum" : Str) (.builtin "sum") := .blt (by rw [C.m]; exact T.free (T.c.fact 79)) (by decide +kernel)
theorem m_sum (T : TX K mg) (C : Ctx P w K mg base k X W) : X.mg ("sum" : Str) = none := by rw [C.m]; exact T.free (T.c.fact 79)
theorem c_Row (T : TX K mg) : Cls K (He.ga K ("Row" : Str)) := cls_of (T.c.fact 80)
theorem i_Row (T : TX K mg) : InsF K (He.ga K ("Row" : Str)) := ins_of (T.c.fact 81)
theorem k_Row (T : TX K mg) : Mk K (He.ga K ("Row" : Str)) (He.ma K (He.ga K ("Row" : Str)) "__init__") := mkr_of (T.c.fact 82)
theorem sf_Row (T : TX K mg) : PySem.W.selfFirst K (He.ga K ("Row" : Str)) = true := self_of (T.c.fact 83)
theorem n_Row_colour (T : TX K mg) : NoAttr K (He.ga K ("Row" : Str)) ("colour" : Str) := noat_of (T.c.fact 84)
theorem n_Row_sizes (T : TX K mg) : NoAttr K (He.ga K ("Row" : Str)) ("sizes" : Str) := noat_of (T.c.fact 85)
theorem h_Row_init (T : TX K mg) : Meth K (He.ga K ("Row" : Str)) ("__init__" : Str) (He.ma K (He.ga K ("Row" : Str)) ("__init__" : Str)) := meth_of (T.c.fact 86)
theorem p_Row_first (T : TX K mg) : PropOf K (He.ga K ("Row" : Str)) ("first" : Str) (He.ma K (He.ga K ("Row" : Str)) ("first" : Str)) (pga K ("Row" : Str) ("first" : Str)) := prop_of (T.c.fact 87)
theorem p_Row_last (T : TX K mg) : PropOf K (He.ga K ("Row" : Str)) ("last" : Str) (He.ma K (He.ga K ("Row" : Str)) ("last" : Str)) (pga K ("Row" : Str) ("last" : Str)) := prop_of (T.c.fact 88)
theorem p_Row_lengths (T : TX K mg) : PropOf K (He.ga K ("Row" : Str)) ("lengths" : Str) (He.ma K (He.ga K ("Row" : Str)) ("lengths" : Str)) (pga K ("Row" : Str) ("lengths" : Str)) := prop_of (T.c.fact 89)
theorem p_Row_runs (T : TX K mg) : PropOf K (He.ga K ("Row" : Str)) ("runs" : Str) (He.ma K (He.ga K ("Row" : Str)) ("runs" : Str)) (pga K ("Row" : Str) ("runs" : Str)) := prop_of (T.c.fact 90)
theorem p_Row_length (T : TX K mg) : PropOf K (He.ga K ("Row" : Str)) ("length" : Str) (He.ma K (He.ga K ("Row" : Str)) ("length" : Str)) (pga K ("Row" : Str) ("length" : Str)) := prop_of (T.c.fact 91)
theorem h_Row_eq (T : TX K mg) : Meth K (He.ga K ("Row" : Str)) ("__eq__" : Str) (He.ma K (He.ga K ("Row" : Str)) ("__eq__" : Str)) := meth_of (T.c.fact 92)
theorem h_Row_bool (T : TX K mg) : Meth K (He.ga K ("Row" : Str)) ("__bool__" : Str) (He.ma K (He.ga K ("Row" : Str)) ("__bool__" : Str)) := meth_of (T.c.fact 93)
theorem h_Row_iter (T : TX K mg) : Meth K (He.ga K ("Row" : Str)) ("__iter__" : Str) (He.ma K (He.ga K ("Row" : Str)) ("__iter__" : Str)) := meth_of (T.c.fact 94)
theorem h_Row_getitem (T : TX K mg) : Meth K (He.ga K ("Row" : Str)) ("__getitem__" : Str) (He.ma K (He.ga K ("Row" : Str)) ("__getitem__" : Str)) := meth_of (T.c.fact 95)
theorem h_Row_add (T : TX K mg) : Meth K (He.ga K ("Row" : Str)) ("__add__" : Str) (He.ma K (He.ga K ("Row" : Str)) ("__add__" : Str)) := meth_of (T.c.fact 96)
theorem h_Row_mul (T : TX K mg) : Meth K (He.ga K ("Row" : Str)) ("__mul__" : Str) (He.ma K (He.ga K ("Row" : Str)) ("__mul__" : Str)) := meth_of (T.c.fact 97)
theorem h_Row_invert (T : TX K mg) : Meth K (He.ga K ("Row" : Str)) ("__invert__" : Str) (He.ma K (He.ga K ("Row" : Str)) ("__invert__" : Str)) := meth_of (T.c.fact 98)
theorem h_Row_neg (T : TX K mg) : Meth K (He.ga K ("Row" : Str)) ("__neg__" : Str) (He.ma K (He.ga K ("Row" : Str)) ("__neg__" : Str)) := meth_of (T.c.fact 99)
theorem h_Row_part (T : TX K mg) : Meth K (He.ga K ("Row" : Str)) ("part" : Str) (He.ma K (He.ga K ("Row" : Str)) ("part" : Str)) := meth_of (T.c.fact 100)
theorem h_Row_count (T : TX K mg) : Meth K (He.ga K ("Row" : Str)) ("count" : Str) (He.ma K (He.ga K ("Row" : Str)) ("count" : Str)) := meth_of (T.c.fact 101)
theorem h_Row_borders (T : TX K mg) : Meth K (He.ga K ("Row" : Str)) ("borders" : Str) (He.ma K (He.ga K ("Row" : Str)) ("borders" : Str)) := meth_of (T.c.fact 102)
theorem ne_Row (T : TX K mg) : PySem.W.findIn K (.ref (He.ga K ("Row" : Str))) "__ne__" = some (some (.builtin "object.__ne__")) ∧ PySem.W.subIn K (.ref (He.ga K ("Row" : Str))) (.type "object") = some true := ne_of' (T.c.fact 103)
theorem nf_NoneType_Row (T : TX K mg) : PySem.W.notFirst K (He.ga K ("Row" : Str)) (.type "NoneType") = true := nsub_of (T.c.fact 104)
theorem nf_int_Row (T : TX K mg) : PySem.W.notFirst K (He.ga K ("Row" : Str)) (.type "int") = true := nsub_of (T.c.fact 105)
theorem nf_bool_Row (T : TX K mg) : PySem.W.notFirst K (He.ga K ("Row" : Str)) (.type "bool") = true := nsub_of (T.c.fact 106)
theorem nf_list_Row (T : TX K mg) : PySem.W.notFirst K (He.ga K ("Row" : Str)) (.type "list") = true := nsub_of (T.c.fact 107)
theorem nf_str_Row (T : TX K mg) : PySem.W.notFirst K (He.ga K ("Row" : Str)) (.type "str") = true := nsub_of (T.c.fact 108)
theorem nf_tuple_Row (T : TX K mg) : PySem.W.notFirst K (He.ga K ("Row" : Str)) (.type "tuple") = true := nsub_of (T.c.fact 109)
theorem nf_dict_Row (T : TX K mg) : PySem.W.notFirst K (He.ga K ("Row" : Str)) (.type "dict") = true := nsub_of (T.c.fact 110)
theorem nf_Flip_Row (T : TX K mg) : PySem.W.notFirst K (He.ga K ("Row" : Str)) (.ref (He.ga K ("Flip" : Str))) = true := nsubC_of (T.c.fact 111)
theorem o_Row_int (T : TX K mg) : PySem.W.kitOne K (.ref (He.ga K ("Row" : Str))) (.type "int") = some false := kitO_of (T.c.fact 112)
theorem o_Row_bool (T : TX K mg) : PySem.W.kitOne K (.ref (He.ga K ("Row" : Str))) (.type "bool") = some false := kitO_of (T.c.fact 113)
theorem o_Row_list (T : TX K mg) : PySem.W.kitOne K (.ref (He.ga K ("Row" : Str))) (.type "list") = some false := kitO_of (T.c.fact 114)
theorem o_Row_str (T : TX K mg) : PySem.W.kitOne K (.ref (He.ga K ("Row" : Str))) (.type "str") = some false := kitO_of (T.c.fact 115)
theorem o_Row_tuple (T : TX K mg) : PySem.W.kitOne K (.ref (He.ga K ("Row" : Str))) (.type "tuple") = some false := kitO_of (T.c.fact 116)
theorem o_Row_dict (T : TX K mg) : PySem.W.kitOne K (.ref (He.ga K ("Row" : Str))) (.type "dict") = some false := kitO_of (T.c.fact 117)
theorem t_int_Row (T : TX K mg) : PySem.W.kitOne K (.type "int") (.ref (He.ga K ("Row" : Str))) = some false := kitT_of (T.c.fact 118)
theorem t_bool_Row (T : TX K mg) : PySem.W.kitOne K (.type "bool") (.ref (He.ga K ("Row" : Str))) = some false := kitT_of (T.c.fact 119)
theorem t_list_Row (T : TX K mg) : PySem.W.kitOne K (.type "list") (.ref (He.ga K ("Row" : Str))) = some false := kitT_of (T.c.fact 120)
theorem t_str_Row (T : TX K mg) : PySem.W.kitOne K (.type "str") (.ref (He.ga K ("Row" : Str))) = some false := kitT_of (T.c.fact 121)
theorem t_tuple_Row (T : TX K mg) : PySem.W.kitOne K (.type "tuple") (.ref (He.ga K ("Row" : Str))) = some false := kitT_of (T.c.fact 122)
theorem t_dict_Row (T : TX K mg) : PySem.W.kitOne K (.type "dict") (.ref (He.ga K ("Row" : Str))) = some false := kitT_of (T.c.fact 123)
theorem t_NoneType_Row (T : TX K mg) : PySem.W.kitOne K (.type "NoneType") (.ref (He.ga K ("Row" : Str))) = some false := kitT_of (T.c.fact 124)
theorem k_Row_Row (T : TX K mg) : PySem.W.kitOne K (.ref (He.ga K ("Row" : Str))) (.ref (He.ga K ("Row" : Str))) = some true := kit_of' (T.c.fact 125)
theorem k_Row_Flip (T : TX K mg) : PySem.W.kitOne K (.ref (He.ga K ("Row" : Str))) (.ref (He.ga K ("Flip" : Str))) = some false := kit_of' (T.c.fact 126)
theorem c_Flip (T : TX K mg) : Cls K (He.ga K ("Flip" : Str)) := cls_of (T.c.fact 127)
theorem i_Flip (T : TX K mg) : InsF K (He.ga K ("Flip" : Str)) := ins_of (T.c.fact 128)
theorem k_Flip (T : TX K mg) : Mk K (He.ga K ("Flip" : Str)) (He.ma K (He.ga K ("Flip" : Str)) "__init__") := mkr_of (T.c.fact 129)
theorem sf_Flip (T : TX K mg) : PySem.W.selfFirst K (He.ga K ("Flip" : Str)) = true := self_of (T.c.fact 130)
theorem co_Flip (T : TX K mg) : StX.CallO K (He.ga K ("Flip" : Str)) (He.ma K (He.ga K ("Flip" : Str)) "__call__") := callO_of' (T.c.fact 131)
theorem n_Flip_begin (T : TX K mg) : NoAttr K (He.ga K ("Flip" : Str)) ("begin" : Str) := noat_of (T.c.fact 132)
theorem n_Flip_finish (T : TX K mg) : NoAttr K (He.ga K ("Flip" : Str)) ("finish" : Str) := noat_of (T.c.fact 133)
theorem h_Flip_init (T : TX K mg) : Meth K (He.ga K ("Flip" : Str)) ("__init__" : Str) (He.ma K (He.ga K ("Flip" : Str)) ("__init__" : Str)) := meth_of (T.c.fact 134)
theorem p_Flip_start (T : TX K mg) : PropOf K (He.ga K ("Flip" : Str)) ("start" : Str) (He.ma K (He.ga K ("Flip" : Str)) ("start" : Str)) (pga K ("Flip" : Str) ("start" : Str)) := prop_of (T.c.fact 135)
theorem p_Flip_end (T : TX K mg) : PropOf K (He.ga K ("Flip" : Str)) ("end" : Str) (He.ma K (He.ga K ("Flip" : Str)) ("end" : Str)) (pga K ("Flip" : Str) ("end" : Str)) := prop_of (T.c.fact 136)
theorem h_Flip_eq (T : TX K mg) : Meth K (He.ga K ("Flip" : Str)) ("__eq__" : Str) (He.ma K (He.ga K ("Flip" : Str)) ("__eq__" : Str)) := meth_of (T.c.fact 137)
theorem h_Flip_check (T : TX K mg) : Meth K (He.ga K ("Flip" : Str)) ("check" : Str) (He.ma K (He.ga K ("Flip" : Str)) ("check" : Str)) := meth_of (T.c.fact 138)
theorem h_Flip_call (T : TX K mg) : Meth K (He.ga K ("Flip" : Str)) ("__call__" : Str) (He.ma K (He.ga K ("Flip" : Str)) ("__call__" : Str)) := meth_of (T.c.fact 139)
theorem h_Flip_is_whole (T : TX K mg) : Meth K (He.ga K ("Flip" : Str)) ("is_whole" : Str) (He.ma K (He.ga K ("Flip" : Str)) ("is_whole" : Str)) := meth_of (T.c.fact 140)
theorem h_Flip_change (T : TX K mg) : Meth K (He.ga K ("Flip" : Str)) ("change" : Str) (He.ma K (He.ga K ("Flip" : Str)) ("change" : Str)) := meth_of (T.c.fact 141)
theorem ne_Flip (T : TX K mg) : PySem.W.findIn K (.ref (He.ga K ("Flip" : Str))) "__ne__" = some (some (.builtin "object.__ne__")) ∧ PySem.W.subIn K (.ref (He.ga K ("Flip" : Str))) (.type "object") = some true := ne_of' (T.c.fact 142)
theorem nf_NoneType_Flip (T : TX K mg) : PySem.W.notFirst K (He.ga K ("Flip" : Str)) (.type "NoneType") = true := nsub_of (T.c.fact 143)
theorem nf_int_Flip (T : TX K mg) : PySem.W.notFirst K (He.ga K ("Flip" : Str)) (.type "int") = true := nsub_of (T.c.fact 144)
theorem nf_bool_Flip (T : TX K mg) : PySem.W.notFirst K (He.ga K ("Flip" : Str)) (.type "bool") = true := nsub_of (T.c.fact 145)
theorem nf_list_Flip (T : TX K mg) : PySem.W.notFirst K (He.ga K ("Flip" : Str)) (.type "list") = true := nsub_of (T.c.fact 146)
theorem nf_str_Flip (T : TX K mg) : PySem.W.notFirst K (He.ga K ("Flip" : Str)) (.type "str") = true := nsub_of (T.c.fact 147)
theorem nf_tuple_Flip (T : TX K mg) : PySem.W.notFirst K (He.ga K ("Flip" : Str)) (.type "tuple") = true := nsub_of (T.c.fact 148)
theorem nf_dict_Flip (T : TX K mg) : PySem.W.notFirst K (He.ga K ("Flip" : Str)) (.type "dict") = true := nsub_of (T.c.fact 149)
theorem nf_Row_Flip (T : TX K mg) : PySem.W.notFirst K (He.ga K ("Flip" : Str)) (.ref (He.ga K ("Row" : Str))) = true := nsubC_of (T.c.fact 150)
theorem o_Flip_int (T : TX K mg) : PySem.W.kitOne K (.ref (He.ga K ("Flip" : Str))) (.type "int") = some false := kitO_of (T.c.fact 151)
theorem o_Flip_bool (T : TX K mg) : PySem.W.kitOne K (.ref (He.ga K ("Flip" : Str))) (.type "bool") = some false := kitO_of (T.c.fact 152)
theorem o_Flip_list (T : TX K mg) : PySem.W.kitOne K (.ref (He.ga K ("Flip" : Str))) (.type "list") = some false := kitO_of (T.c.fact 153)
theorem o_Flip_str (T : TX K mg) : PySem.W.kitOne K (.ref (He.ga K ("Flip" : Str))) (.type "str") = some false := kitO_of (T.c.fact 154)
theorem o_Flip_tuple (T : TX K mg) : PySem.W.kitOne K (.ref (He.ga K ("Flip" : Str))) (.type "tuple") = some false := kitO_of (T.c.fact 155)
theorem o_Flip_dict (T : TX K mg) : PySem.W.kitOne K (.ref (He.ga K ("Flip" : Str))) (.type "dict") = some false := kitO_of (T.c.fact 156)
theorem t_int_Flip (T : TX K mg) : PySem.W.kitOne K (.type "int") (.ref (He.ga K ("Flip" : Str))) = some false := kitT_of (T.c.fact 157)
theorem t_bool_Flip (T : TX K mg) : PySem.W.kitOne K (.type "bool") (.ref (He.ga K ("Flip" : Str))) = some false := kitT_of (T.c.fact 158)
theorem t_list_Flip (T : TX K mg) : PySem.W.kitOne K (.type "list") (.ref (He.ga K ("Flip" : Str))) = some false := kitT_of (T.c.fact 159)
theorem t_str_Flip (T : TX K mg) : PySem.W.kitOne K (.type "str") (.ref (He.ga K ("Flip" : Str))) = some false := kitT_of (T.c.fact 160)
theorem t_tuple_Flip (T : TX K mg) : PySem.W.kitOne K (.type "tuple") (.ref (He.ga K ("Flip" : Str))) = some false := kitT_of (T.c.fact 161)
theorem t_dict_Flip (T : TX K mg) : PySem.W.kitOne K (.type "dict") (.ref (He.ga K ("Flip" : Str))) = some false := kitT_of (T.c.fact 162)
theorem t_NoneType_Flip (T : TX K mg) : PySem.W.kitOne K (.type "NoneType") (.ref (He.ga K ("Flip" : Str))) = some false := kitT_of (T.c.fact 163)
theorem k_Flip_Row (T : TX K mg) : PySem.W.kitOne K (.ref (He.ga K ("Flip" : Str))) (.ref (He.ga K ("Row" : Str))) = some false := kit_of' (T.c.fact 164)
theorem k_Flip_Flip (T : TX K mg) : PySem.W.kitOne K (.ref (He.ga K ("Flip" : Str))) (.ref (He.ga K ("Flip" : Str))) = some true := kit_of' (T.c.fact 165)
theorem e_InvalidRow (T : TX K mg) : ExcF K (He.ga K ("InvalidRow" : Str)) [.type "ValueError", .type "Exception", .type "BaseException", .type "object"] "ValueError.__new__" := exc_of (T.c.fact 166)
theorem ec_InvalidRow (T : TX K mg) : ExcC K (He.ga K ("InvalidRow" : Str)) := excC_of (T.c.fact 167)
theorem e_InvalidFlip (T : TX K mg) : ExcF K (He.ga K ("InvalidFlip" : Str)) [.type "ValueError", .type "Exception", .type "BaseException", .type "object"] "ValueError.__new__" := exc_of (T.c.fact 168)
theorem ec_InvalidFlip (T : TX K mg) : ExcC K (He.ga K ("InvalidFlip" : Str)) := excC_of (T.c.fact 169)
theorem e_InvalidGame (T : TX K mg) : ExcF K (He.ga K ("InvalidGame" : Str)) [.type "ValueError", .type "Exception", .type "BaseException", .type "object"] "ValueError.__new__" := exc_of (T.c.fact 170)
theorem ec_InvalidGame (T : TX K mg) : ExcC K (He.ga K ("InvalidGame" : Str)) := excC_of (T.c.fact 171)
theorem e_InvalidGoal (T : TX K mg) : ExcF K (He.ga K ("InvalidGoal" : Str)) [.type "ValueError", .type "Exception", .type "BaseException", .type "object"] "ValueError.__new__" := exc_of (T.c.fact 172)
theorem ec_InvalidGoal (T : TX K mg) : ExcC K (He.ga K ("InvalidGoal" : Str)) := excC_of (T.c.fact 173)
theorem ei_LimitExceeded (T : TX K mg) : ExiF K (He.ga K ("LimitExceeded" : Str)) [.type "OverflowError", .type "ArithmeticError", .type "Exception", .type "BaseException", .type "object"] "OverflowError" "OverflowError.__new__" "OverflowError.__init__" ("limit" : Str) ("limit" : Str) := exi_of (T.c.fact 174)
theorem mkx_LimitExceeded [PF P] {v : V} {R : XK} {σ : L2.St} {H : Hp} (T : TX K mg) (C : Ctx P w K mg base k X W) (hk : 1 ≤ k) (q : ∀ d, H d = none → R (.ref (He.ga K ("LimitExceeded" : Str))) (some d) (upd H d (.xd [(("limit" : Str), v)]))) : MkV X (.ref (He.ga K ("LimitExceeded" : Str))) [v] σ H R := mk_exi C hk PySem.F.excBase_OverflowError PySem.W.kxs_OverflowError PySem.F.store_OverflowError (ei_LimitExceeded T) (fun _ _ _ _ _ _ _ _ _ _ _ _ _ _ _ _ _ => rfl) (by decide) (by decide) q
theorem mkxH_LimitExceeded [PF P] {v : V} {R : XK} {σ : L2.St} {H : Hp} (T : TX K mg) (C : CtxH P w K mg base k X) (hk : 1 ≤ k) (q : ∀ d, H d = none → R (.ref (He.ga K ("LimitExceeded" : Str))) (some d) (upd H d (.xd [(("limit" : Str), v)]))) : MkV X (.ref (He.ga K ("LimitExceeded" : Str))) [v] σ H R := mk_exiH C hk PySem.F.excBase_OverflowError PySem.W.kxs_OverflowError PySem.F.store_OverflowError (ei_LimitExceeded T) (fun _ _ _ _ _ _ _ _ _ _ _ _ _ _ _ _ _ => rfl) (by decide) (by decide) q
theorem ec_LimitExceeded (T : TX K mg) : ExcC K (He.ga K ("LimitExceeded" : Str)) := excC_of (T.c.fact 175)
theorem xf_LimitExceeded (T : TX K mg) : XfC K (He.ga K ("LimitExceeded" : Str)) := xf_of (T.c.fact 176)
theorem x_InvalidRow_InvalidGame (T : TX K mg) : PySem.W.exmOne K (.ref (He.ga K ("InvalidRow" : Str))) (.ref (He.ga K ("InvalidGame" : Str))) = some false := exm_of' (T.c.fact 177)
theorem x_InvalidRow_InvalidGoal (T : TX K mg) : PySem.W.exmOne K (.ref (He.ga K ("InvalidRow" : Str))) (.ref (He.ga K ("InvalidGoal" : Str))) = some false := exm_of' (T.c.fact 178)
theorem x_InvalidRow_LimitExceeded (T : TX K mg) : PySem.W.exmOne K (.ref (He.ga K ("InvalidRow" : Str))) (.ref (He.ga K ("LimitExceeded" : Str))) = some false := exm_of' (T.c.fact 179)
theorem x_InvalidFlip_InvalidGame (T : TX K mg) : PySem.W.exmOne K (.ref (He.ga K ("InvalidFlip" : Str))) (.ref (He.ga K ("InvalidGame" : Str))) = some false := exm_of' (T.c.fact 180)
theorem x_InvalidFlip_InvalidGoal (T : TX K mg) : PySem.W.exmOne K (.ref (He.ga K ("InvalidFlip" : Str))) (.ref (He.ga K ("InvalidGoal" : Str))) = some false := exm_of' (T.c.fact 181)
theorem x_InvalidFlip_LimitExceeded (T : TX K mg) : PySem.W.exmOne K (.ref (He.ga K ("InvalidFlip" : Str))) (.ref (He.ga K ("LimitExceeded" : Str))) = some false := exm_of' (T.c.fact 182)
theorem x_InvalidGame_InvalidGame (T : TX K mg) : PySem.W.exmOne K (.ref (He.ga K ("InvalidGame" : Str))) (.ref (He.ga K ("InvalidGame" : Str))) = some true := exm_of' (T.c.fact 183)
theorem x_InvalidGame_InvalidGoal (T : TX K mg) : PySem.W.exmOne K (.ref (He.ga K ("InvalidGame" : Str))) (.ref (He.ga K ("InvalidGoal" : Str))) = some false := exm_of' (T.c.fact 184)
theorem x_InvalidGame_LimitExceeded (T : TX K mg) : PySem.W.exmOne K (.ref (He.ga K ("InvalidGame" : Str))) (.ref (He.ga K ("LimitExceeded" : Str))) = some false := exm_of' (T.c.fact 185)
theorem x_InvalidGoal_InvalidGame (T : TX K mg) : PySem.W.exmOne K (.ref (He.ga K ("InvalidGoal" : Str))) (.ref (He.ga K ("InvalidGame" : Str))) = some false := exm_of' (T.c.fact 186)
theorem x_InvalidGoal_InvalidGoal (T : TX K mg) : PySem.W.exmOne K (.ref (He.ga K ("InvalidGoal" : Str))) (.ref (He.ga K ("InvalidGoal" : Str))) = some true := exm_of' (T.c.fact 187)
theorem x_InvalidGoal_LimitExceeded (T : TX K mg) : PySem.W.exmOne K (.ref (He.ga K ("InvalidGoal" : Str))) (.ref (He.ga K ("LimitExceeded" : Str))) = some false := exm_of' (T.c.fact 188)
theorem x_LimitExceeded_InvalidGame (T : TX K mg) : PySem.W.exmOne K (.ref (He.ga K ("LimitExceeded" : Str))) (.ref (He.ga K ("InvalidGame" : Str))) = some false := exm_of' (T.c.fact 189)
theorem x_LimitExceeded_InvalidGoal (T : TX K mg) : PySem.W.exmOne K (.ref (He.ga K ("LimitExceeded" : Str))) (.ref (He.ga K ("InvalidGoal" : Str))) = some false := exm_of' (T.c.fact 190)
theorem x_LimitExceeded_LimitExceeded (T : TX K mg) : PySem.W.exmOne K (.ref (He.ga K ("LimitExceeded" : Str))) (.ref (He.ga K ("LimitExceeded" : Str))) = some true := exm_of' (T.c.fact 191)
theorem o_InvalidRow_OverflowError (T : TX K mg) : PySem.W.kitOne K (.ref (He.ga K ("InvalidRow" : Str))) (.type "OverflowError") = some false := kitO_of (T.c.fact 192)
theorem o_InvalidFlip_OverflowError (T : TX K mg) : PySem.W.kitOne K (.ref (He.ga K ("InvalidFlip" : Str))) (.type "OverflowError") = some false := kitO_of (T.c.fact 193)
theorem o_InvalidGame_OverflowError (T : TX K mg) : PySem.W.kitOne K (.ref (He.ga K ("InvalidGame" : Str))) (.type "OverflowError") = some false := kitO_of (T.c.fact 194)
theorem o_InvalidGoal_OverflowError (T : TX K mg) : PySem.W.kitOne K (.ref (He.ga K ("InvalidGoal" : Str))) (.type "OverflowError") = some false := kitO_of (T.c.fact 195)
theorem o_LimitExceeded_OverflowError (T : TX K mg) : PySem.W.kitOne K (.ref (He.ga K ("LimitExceeded" : Str))) (.type "OverflowError") = some true := kitO_of (T.c.fact 196)
theorem k_InvalidRow_InvalidRow (T : TX K mg) : PySem.W.kitOne K (.ref (He.ga K ("InvalidRow" : Str))) (.ref (He.ga K ("InvalidRow" : Str))) = some true := kit_of' (T.c.fact 197)
theorem k_InvalidRow_InvalidFlip (T : TX K mg) : PySem.W.kitOne K (.ref (He.ga K ("InvalidRow" : Str))) (.ref (He.ga K ("InvalidFlip" : Str))) = some false := kit_of' (T.c.fact 198)
theorem k_InvalidRow_InvalidGame (T : TX K mg) : PySem.W.kitOne K (.ref (He.ga K ("InvalidRow" : Str))) (.ref (He.ga K ("InvalidGame" : Str))) = some false := kit_of' (T.c.fact 199)
theorem k_InvalidRow_InvalidGoal (T : TX K mg) : PySem.W.kitOne K (.ref (He.ga K ("InvalidRow" : Str))) (.ref (He.ga K ("InvalidGoal" : Str))) = some false := kit_of' (T.c.fact 200)
theorem k_InvalidRow_LimitExceeded (T : TX K mg) : PySem.W.kitOne K (.ref (He.ga K ("InvalidRow" : Str))) (.ref (He.ga K ("LimitExceeded" : Str))) = some false := kit_of' (T.c.fact 201)
theorem k_InvalidFlip_InvalidRow (T : TX K mg) : PySem.W.kitOne K (.ref (He.ga K ("InvalidFlip" : Str))) (.ref (He.ga K ("InvalidRow" : Str))) = some false := kit_of' (T.c.fact 202)
theorem k_InvalidFlip_InvalidFlip (T : TX K mg) : PySem.W.kitOne K (.ref (He.ga K ("InvalidFlip" : Str))) (.ref (He.ga K ("InvalidFlip" : Str))) = some true := kit_of' (T.c.fact 203)
theorem k_InvalidFlip_InvalidGame (T : TX K mg) : PySem.W.kitOne K (.ref (He.ga K ("InvalidFlip" : Str))) (.ref (He.ga K ("InvalidGame" : Str))) = some false := kit_of' (T.c.fact 204)
theorem k_InvalidFlip_InvalidGoal (T : TX K mg) : PySem.W.kitOne K (.ref (He.ga K ("InvalidFlip" : Str))) (.ref (He.ga K ("InvalidGoal" : Str))) = some false := kit_of' (T.c.fact 205)
theorem k_InvalidFlip_LimitExceeded (T : TX K mg) : PySem.W.kitOne K (.ref (He.ga K ("InvalidFlip" : Str))) (.ref (He.ga K ("LimitExceeded" : Str))) = some false := kit_of' (T.c.fact 206)
theorem k_InvalidGame_InvalidRow (T : TX K mg) : PySem.W.kitOne K (.ref (He.ga K ("InvalidGame" : Str))) (.ref (He.ga K ("InvalidRow" : Str))) = some false := kit_of' (T.c.fact 207)
theorem k_InvalidGame_InvalidFlip (T : TX K mg) : PySem.W.kitOne K (.ref (He.ga K ("InvalidGame" : Str))) (.ref (He.ga K ("InvalidFlip" : Str))) = some false := kit_of' (T.c.fact 208)
theorem k_InvalidGame_InvalidGame (T : TX K mg) : PySem.W.kitOne K (.ref (He.ga K ("InvalidGame" : Str))) (.ref (He.ga K ("InvalidGame" : Str))) = some true := kit_of' (T.c.fact 209)
theorem k_InvalidGame_InvalidGoal (T : TX K mg) : PySem.W.kitOne K (.ref (He.ga K ("InvalidGame" : Str))) (.ref (He.ga K ("InvalidGoal" : Str))) = some false := kit_of' (T.c.fact 210)
theorem k_InvalidGame_LimitExceeded (T : TX K mg) : PySem.W.kitOne K (.ref (He.ga K ("InvalidGame" : Str))) (.ref (He.ga K ("LimitExceeded" : Str))) = some false := kit_of' (T.c.fact 211)
theorem k_InvalidGoal_InvalidRow (T : TX K mg) : PySem.W.kitOne K (.ref (He.ga K ("InvalidGoal" : Str))) (.ref (He.ga K ("InvalidRow" : Str))) = some false := kit_of' (T.c.fact 212)
theorem k_InvalidGoal_InvalidFlip (T : TX K mg) : PySem.W.kitOne K (.ref (He.ga K ("InvalidGoal" : Str))) (.ref (He.ga K ("InvalidFlip" : Str))) = some false := kit_of' (T.c.fact 213)
theorem k_InvalidGoal_InvalidGame (T : TX K mg) : PySem.W.kitOne K (.ref (He.ga K ("InvalidGoal" : Str))) (.ref (He.ga K ("InvalidGame" : Str))) = some false := kit_of' (T.c.fact 214)
theorem k_InvalidGoal_InvalidGoal (T : TX K mg) : PySem.W.kitOne K (.ref (He.ga K ("InvalidGoal" : Str))) (.ref (He.ga K ("InvalidGoal" : Str))) = some true := kit_of' (T.c.fact 215)
theorem k_InvalidGoal_LimitExceeded (T : TX K mg) : PySem.W.kitOne K (.ref (He.ga K ("InvalidGoal" : Str))) (.ref (He.ga K ("LimitExceeded" : Str))) = some false := kit_of' (T.c.fact 216)
theorem k_LimitExceeded_InvalidRow (T : TX K mg) : PySem.W.kitOne K (.ref (He.ga K ("LimitExceeded" : Str))) (.ref (He.ga K ("InvalidRow" : Str))) = some false := kit_of' (T.c.fact 217)
theorem k_LimitExceeded_InvalidFlip (T : TX K mg) : PySem.W.kitOne K (.ref (He.ga K ("LimitExceeded" : Str))) (.ref (He.ga K ("InvalidFlip" : Str))) = some false := kit_of' (T.c.fact 218)
theorem k_LimitExceeded_InvalidGame (T : TX K mg) : PySem.W.kitOne K (.ref (He.ga K ("LimitExceeded" : Str))) (.ref (He.ga K ("InvalidGame" : Str))) = some false := kit_of' (T.c.fact 219)
theorem k_LimitExceeded_InvalidGoal (T : TX K mg) : PySem.W.kitOne K (.ref (He.ga K ("LimitExceeded" : Str))) (.ref (He.ga K ("InvalidGoal" : Str))) = some false := kit_of' (T.c.fact 220)
theorem k_LimitExceeded_LimitExceeded (T : TX K mg) : PySem.W.kitOne K (.ref (He.ga K ("LimitExceeded" : Str))) (.ref (He.ga K ("LimitExceeded" : Str))) = some true := kit_of' (T.c.fact 221)
theorem tne_plain_best_flips_law (T : TX K mg) : (He.cT K (("plain_best_flips" : Str), none)).2 ≠ (He.cT K (("law" : Str), none)).2 := tne_of (T.c.fact 222)
theorem tne_law_plain_best_flips (T : TX K mg) : (He.cT K (("law" : Str), none)).2 ≠ (He.cT K (("plain_best_flips" : Str), none)).2 := tne_of (T.c.fact 223)
def tf : List He.Defn := [(("plain_best_flips" : Str), none), (("law" : Str), none)]
theorem mk_is_number {sp : Sp} (T : TX K mg) (len : ∀ vs H Q E, sp vs H Q E → vs.length = 3)
    (hb : ∀ (X : Cx) (vs : List V) (H : Hp) (Q : VK) (E : XK), Ctx P w K mg base k X (fun cls d _ H => E cls d H) → sp vs H Q E → r_is_number X (fun cls d _ H => E cls d H) { nx := fun _ H' => Q .non H', rt := Q } (start N_is_number vs) H) :
    FnS P w K mg base (He.ga K ("is_number" : Str)) (k + 1) [("candidate" : Str), ("least" : Str), ("greatest" : Str)] sp := by
  obtain ⟨fd, F⟩ := T.c.def_ 0
  exact fn_ok F sc_is_number (fun _ _ _ _ _ _ us hl => match us, hl with | [_, _, _], _ => rfl) len _ 60 q_is_number hb
theorem mk_is_count {sp : Sp} (T : TX K mg) (len : ∀ vs H Q E, sp vs H Q E → vs.length = 1)
    (hb : ∀ (X : Cx) (vs : List V) (H : Hp) (Q : VK) (E : XK), Ctx P w K mg base k X (fun cls d _ H => E cls d H) → sp vs H Q E → r_is_count X (fun cls d _ H => E cls d H) { nx := fun _ H' => Q .non H', rt := Q } (start N_is_count vs) H) :
    FnS P w K mg base (He.ga K ("is_count" : Str)) (k + 1) [("candidate" : Str)] sp := by
  obtain ⟨fd, F⟩ := T.c.def_ 1
  exact fn_ok F sc_is_count (fun _ _ _ _ _ _ us hl => match us, hl with | [_], _ => rfl) len _ 60 q_is_count hb
theorem mk_is_colour {sp : Sp} (T : TX K mg) (len : ∀ vs H Q E, sp vs H Q E → vs.length = 1)
    (hb : ∀ (X : Cx) (vs : List V) (H : Hp) (Q : VK) (E : XK), Ctx P w K mg base k X (fun cls d _ H => E cls d H) → sp vs H Q E → r_is_colour X (fun cls d _ H => E cls d H) { nx := fun _ H' => Q .non H', rt := Q } (start N_is_colour vs) H) :
    FnS P w K mg base (He.ga K ("is_colour" : Str)) (k + 1) [("candidate" : Str)] sp := by
  obtain ⟨fd, F⟩ := T.c.def_ 2
  exact fn_ok F sc_is_colour (fun _ _ _ _ _ _ us hl => match us, hl with | [_], _ => rfl) len _ 60 q_is_colour hb
theorem mk_joined {sp : Sp} (T : TX K mg) (len : ∀ vs H Q E, sp vs H Q E → vs.length = 2)
    (hb : ∀ (X : Cx) (vs : List V) (H : Hp) (Q : VK) (E : XK), Ctx P w K mg base k X (fun cls d _ H => E cls d H) → sp vs H Q E → r_joined X (fun cls d _ H => E cls d H) { nx := fun _ H' => Q .non H', rt := Q } (start N_joined vs) H) :
    FnS P w K mg base (He.ga K ("joined" : Str)) (k + 1) [("first" : Str), ("second" : Str)] sp := by
  obtain ⟨fd, F⟩ := T.c.def_ 3
  exact fn_ok F sc_joined (fun _ _ _ _ _ _ us hl => match us, hl with | [_, _], _ => rfl) len _ 60 q_joined hb
theorem mk_Row_init {sp : Sp} (T : TX K mg) (len : ∀ vs H Q E, sp vs H Q E → vs.length = 3)
    (hb : ∀ (X : Cx) (vs : List V) (H : Hp) (Q : VK) (E : XK), Ctx P w K mg base k X (fun cls d _ H => E cls d H) → sp vs H Q E → r_Row_init X (fun cls d _ H => E cls d H) { nx := fun _ H' => Q .non H', rt := Q } (start N_Row_init vs) H) :
    FnS P w K mg base (He.ma K (He.ga K ("Row" : Str)) ("__init__" : Str)) (k + 1) [("self" : Str), ("first" : Str), ("lengths" : Str)] sp := by
  obtain ⟨fd, F⟩ := T.c.def_ 4
  exact fn_ok F sc_Row_init (fun _ _ _ _ _ _ us hl => match us, hl with | [_, _, _], _ => rfl) len _ 60 q_Row_init hb
theorem mk_Row_first {sp : Sp} (T : TX K mg) (len : ∀ vs H Q E, sp vs H Q E → vs.length = 1)
    (hb : ∀ (X : Cx) (vs : List V) (H : Hp) (Q : VK) (E : XK), Ctx P w K mg base k X (fun cls d _ H => E cls d H) → sp vs H Q E → r_Row_first X (fun cls d _ H => E cls d H) { nx := fun _ H' => Q .non H', rt := Q } (start N_Row_first vs) H) :
    FnS P w K mg base (pga K ("Row" : Str) ("first" : Str)) (k + 1) [("self" : Str)] sp := by
  obtain ⟨fd, F⟩ := T.c.def_ 5
  exact fn_ok F sc_Row_first (fun _ _ _ _ _ _ us hl => match us, hl with | [_], _ => rfl) len _ 60 q_Row_first hb
theorem mk_Row_runs {sp : Sp} (T : TX K mg) (len : ∀ vs H Q E, sp vs H Q E → vs.length = 1)
    (hb : ∀ (X : Cx) (vs : List V) (H : Hp) (Q : VK) (E : XK), Ctx P w K mg base k X (fun cls d _ H => E cls d H) → sp vs H Q E → r_Row_runs X (fun cls d _ H => E cls d H) { nx := fun _ H' => Q .non H', rt := Q } (start N_Row_runs vs) H) :
    FnS P w K mg base (pga K ("Row" : Str) ("runs" : Str)) (k + 1) [("self" : Str)] sp := by
  obtain ⟨fd, F⟩ := T.c.def_ 6
  exact fn_ok F sc_Row_runs (fun _ _ _ _ _ _ us hl => match us, hl with | [_], _ => rfl) len _ 60 q_Row_runs hb
theorem mk_Row_borders {sp : Sp} (T : TX K mg) (len : ∀ vs H Q E, sp vs H Q E → vs.length = 1)
    (hb : ∀ (X : Cx) (vs : List V) (H : Hp) (Q : VK) (E : XK), Ctx P w K mg base k X (fun cls d _ H => E cls d H) → sp vs H Q E → r_Row_borders X (fun cls d _ H => E cls d H) { nx := fun _ H' => Q .non H', rt := Q } (start N_Row_borders vs) H) :
    FnS P w K mg base (He.ma K (He.ga K ("Row" : Str)) ("borders" : Str)) (k + 1) [("self" : Str)] sp := by
  obtain ⟨fd, F⟩ := T.c.def_ 7
  exact fn_ok F sc_Row_borders (fun _ _ _ _ _ _ us hl => match us, hl with | [_], _ => rfl) len _ 60 q_Row_borders hb
theorem mk_check_game {sp : Sp} (T : TX K mg) (len : ∀ vs H Q E, sp vs H Q E → vs.length = 1)
    (hb : ∀ (X : Cx) (vs : List V) (H : Hp) (Q : VK) (E : XK), Ctx P w K mg base k X (fun cls d _ H => E cls d H) → sp vs H Q E → r_check_game X (fun cls d _ H => E cls d H) { nx := fun _ H' => Q .non H', rt := Q } (start N_check_game vs) H) :
    FnS P w K mg base (He.ga K ("check_game" : Str)) (k + 1) [("game" : Str)] sp := by
  obtain ⟨fd, F⟩ := T.c.def_ 8
  exact fn_ok F sc_check_game (fun _ _ _ _ _ _ us hl => match us, hl with | [_], _ => rfl) len _ 60 q_check_game hb
theorem mk_Flip_init {sp : Sp} (T : TX K mg) (len : ∀ vs H Q E, sp vs H Q E → vs.length = 3)
    (hb : ∀ (X : Cx) (vs : List V) (H : Hp) (Q : VK) (E : XK), Ctx P w K mg base k X (fun cls d _ H => E cls d H) → sp vs H Q E → r_Flip_init X (fun cls d _ H => E cls d H) { nx := fun _ H' => Q .non H', rt := Q } (start N_Flip_init vs) H) :
    FnS P w K mg base (He.ma K (He.ga K ("Flip" : Str)) ("__init__" : Str)) (k + 1) [("self" : Str), ("start" : Str), ("end" : Str)] sp := by
  obtain ⟨fd, F⟩ := T.c.def_ 9
  exact fn_ok F sc_Flip_init (fun _ _ _ _ _ _ us hl => match us, hl with | [_, _, _], _ => rfl) len _ 60 q_Flip_init hb
theorem mk_Flip_start {sp : Sp} (T : TX K mg) (len : ∀ vs H Q E, sp vs H Q E → vs.length = 1)
    (hb : ∀ (X : Cx) (vs : List V) (H : Hp) (Q : VK) (E : XK), Ctx P w K mg base k X (fun cls d _ H => E cls d H) → sp vs H Q E → r_Flip_start X (fun cls d _ H => E cls d H) { nx := fun _ H' => Q .non H', rt := Q } (start N_Flip_start vs) H) :
    FnS P w K mg base (pga K ("Flip" : Str) ("start" : Str)) (k + 1) [("self" : Str)] sp := by
  obtain ⟨fd, F⟩ := T.c.def_ 10
  exact fn_ok F sc_Flip_start (fun _ _ _ _ _ _ us hl => match us, hl with | [_], _ => rfl) len _ 60 q_Flip_start hb
theorem mk_Flip_end {sp : Sp} (T : TX K mg) (len : ∀ vs H Q E, sp vs H Q E → vs.length = 1)
    (hb : ∀ (X : Cx) (vs : List V) (H : Hp) (Q : VK) (E : XK), Ctx P w K mg base k X (fun cls d _ H => E cls d H) → sp vs H Q E → r_Flip_end X (fun cls d _ H => E cls d H) { nx := fun _ H' => Q .non H', rt := Q } (start N_Flip_end vs) H) :
    FnS P w K mg base (pga K ("Flip" : Str) ("end" : Str)) (k + 1) [("self" : Str)] sp := by
  obtain ⟨fd, F⟩ := T.c.def_ 11
  exact fn_ok F sc_Flip_end (fun _ _ _ _ _ _ us hl => match us, hl with | [_], _ => rfl) len _ 60 q_Flip_end hb
theorem mk_check_goal {sp : Sp} (T : TX K mg) (len : ∀ vs H Q E, sp vs H Q E → vs.length = 1)
    (hb : ∀ (X : Cx) (vs : List V) (H : Hp) (Q : VK) (E : XK), Ctx P w K mg base k X (fun cls d _ H => E cls d H) → sp vs H Q E → r_check_goal X (fun cls d _ H => E cls d H) { nx := fun _ H' => Q .non H', rt := Q } (start N_check_goal vs) H) :
    FnS P w K mg base (He.ga K ("check_goal" : Str)) (k + 1) [("goal" : Str)] sp := by
  obtain ⟨fd, F⟩ := T.c.def_ 12
  exact fn_ok F sc_check_goal (fun _ _ _ _ _ _ us hl => match us, hl with | [_], _ => rfl) len _ 60 q_check_goal hb
theorem mk_check_words {sp : Sp} (T : TX K mg) (len : ∀ vs H Q E, sp vs H Q E → vs.length = 2)
    (hb : ∀ (X : Cx) (vs : List V) (H : Hp) (Q : VK) (E : XK), Ctx P w K mg base k X (fun cls d _ H => E cls d H) → sp vs H Q E → r_check_words X (fun cls d _ H => E cls d H) { nx := fun _ H' => Q .non H', rt := Q } (start N_check_words vs) H) :
    FnS P w K mg base (He.ga K ("check_words" : Str)) (k + 1) [("game" : Str), ("goal" : Str)] sp := by
  obtain ⟨fd, F⟩ := T.c.def_ 13
  exact fn_ok F sc_check_words (fun _ _ _ _ _ _ us hl => match us, hl with | [_, _], _ => rfl) len _ 60 q_check_words hb
theorem mk_sorting_cost {sp : Sp} (T : TX K mg) (len : ∀ vs H Q E, sp vs H Q E → vs.length = 3)
    (hb : ∀ (X : Cx) (vs : List V) (H : Hp) (Q : VK) (E : XK), Ctx P w K mg base k X (fun cls d _ H => E cls d H) → sp vs H Q E → r_sorting_cost X (fun cls d _ H => E cls d H) { nx := fun _ H' => Q .non H', rt := Q } (start N_sorting_cost vs) H) :
    FnS P w K mg base (He.ga K ("sorting_cost" : Str)) (k + 1) [("runs" : Str), ("first" : Str), ("game" : Str)] sp := by
  obtain ⟨fd, F⟩ := T.c.def_ 14
  exact fn_ok F sc_sorting_cost (fun _ _ _ _ _ _ us hl => match us, hl with | [_, _, _], _ => rfl) len _ 60 q_sorting_cost hb
theorem mk_plain_cost {sp : Sp} (T : TX K mg) (len : ∀ vs H Q E, sp vs H Q E → vs.length = 4)
    (hb : ∀ (X : Cx) (vs : List V) (H : Hp) (Q : VK) (E : XK), Ctx P w K mg base k X (fun cls d _ H => E cls d H) → sp vs H Q E → r_plain_cost X (fun cls d _ H => E cls d H) { nx := fun _ H' => Q .non H', rt := Q } (start N_plain_cost vs) H) :
    FnS P w K mg base (He.ga K ("plain_cost" : Str)) (k + 1) [("runs" : Str), ("first" : Str), ("game" : Str), ("goal" : Str)] sp := by
  obtain ⟨fd, F⟩ := T.c.def_ 15
  exact fn_ok F sc_plain_cost (fun _ _ _ _ _ _ us hl => match us, hl with | [_, _, _, _], _ => rfl) len _ 60 q_plain_cost hb
theorem mk_numbers_by_kind {sp : Sp} (T : TX K mg) (len : ∀ vs H Q E, sp vs H Q E → vs.length = 1)
    (hb : ∀ (X : Cx) (vs : List V) (H : Hp) (Q : VK) (E : XK), Ctx P w K mg base k X (fun cls d _ H => E cls d H) → sp vs H Q E → r_numbers_by_kind X (fun cls d _ H => E cls d H) { nx := fun _ H' => Q .non H', rt := Q } (start N_numbers_by_kind vs) H) :
    FnS P w K mg base (He.ga K ("numbers_by_kind" : Str)) (k + 1) [("runs" : Str)] sp := by
  obtain ⟨fd, F⟩ := T.c.def_ 16
  exact fn_ok F sc_numbers_by_kind (fun _ _ _ _ _ _ us hl => match us, hl with | [_], _ => rfl) len _ 60 q_numbers_by_kind hb
theorem mk_state_after {sp : Sp} (T : TX K mg) (len : ∀ vs H Q E, sp vs H Q E → vs.length = 3)
    (hb : ∀ (X : Cx) (vs : List V) (H : Hp) (Q : VK) (E : XK), Ctx P w K mg base k X (fun cls d _ H => E cls d H) → sp vs H Q E → r_state_after X (fun cls d _ H => E cls d H) { nx := fun _ H' => Q .non H', rt := Q } (start N_state_after vs) H) :
    FnS P w K mg base (He.ga K ("state_after" : Str)) (k + 1) [("runs" : Str), ("first" : Str), ("kind" : Str)] sp := by
  obtain ⟨fd, F⟩ := T.c.def_ 17
  exact fn_ok F sc_state_after (fun _ _ _ _ _ _ us hl => match us, hl with | [_, _, _], _ => rfl) len _ 60 q_state_after hb
theorem mk_kinds_of_game {sp : Sp} (T : TX K mg) (len : ∀ vs H Q E, sp vs H Q E → vs.length = 1)
    (hb : ∀ (X : Cx) (vs : List V) (H : Hp) (Q : VK) (E : XK), Ctx P w K mg base k X (fun cls d _ H => E cls d H) → sp vs H Q E → r_kinds_of_game X (fun cls d _ H => E cls d H) { nx := fun _ H' => Q .non H', rt := Q } (start N_kinds_of_game vs) H) :
    FnS P w K mg base (He.ga K ("kinds_of_game" : Str)) (k + 1) [("game" : Str)] sp := by
  obtain ⟨fd, F⟩ := T.c.def_ 18
  exact fn_ok F sc_kinds_of_game (fun _ _ _ _ _ _ us hl => match us, hl with | [_], _ => rfl) len _ 60 q_kinds_of_game hb
theorem mk_best_kinds {sp : Sp} (T : TX K mg) (len : ∀ vs H Q E, sp vs H Q E → vs.length = 4)
    (hb : ∀ (X : Cx) (vs : List V) (H : Hp) (Q : VK) (E : XK), Ctx P w K mg base k X (fun cls d _ H => E cls d H) → sp vs H Q E → r_best_kinds X (fun cls d _ H => E cls d H) { nx := fun _ H' => Q .non H', rt := Q } (start N_best_kinds vs) H) :
    FnS P w K mg base (He.ga K ("best_kinds" : Str)) (k + 1) [("runs" : Str), ("first" : Str), ("game" : Str), ("goal" : Str)] sp := by
  obtain ⟨fd, F⟩ := T.c.def_ 19
  exact fn_ok F sc_best_kinds (fun _ _ _ _ _ _ us hl => match us, hl with | [_, _, _, _], _ => rfl) len _ 60 q_best_kinds hb
theorem mk_count_best {sp : Sp} (T : TX K mg) (len : ∀ vs H Q E, sp vs H Q E → vs.length = 3)
    (hb : ∀ (X : Cx) (vs : List V) (H : Hp) (Q : VK) (E : XK), Ctx P w K mg base k X (fun cls d _ H => E cls d H) → sp vs H Q E → r_count_best X (fun cls d _ H => E cls d H) { nx := fun _ H' => Q .non H', rt := Q } (start N_count_best vs) H) :
    FnS P w K mg base (He.ga K ("count_best" : Str)) (k + 1) [("row" : Str), ("game" : Str), ("goal" : Str)] sp := by
  obtain ⟨fd, F⟩ := T.c.def_ 20
  exact fn_ok F sc_count_best (fun _ _ _ _ _ _ us hl => match us, hl with | [_, _, _], _ => rfl) len _ 60 q_count_best hb
theorem mk_flips_of_kind {sp : Sp} (T : TX K mg) (len : ∀ vs H Q E, sp vs H Q E → vs.length = 2)
    (hb : ∀ (X : Cx) (vs : List V) (H : Hp) (Q : VK) (E : XK), Ctx P w K mg base k X (fun cls d _ H => E cls d H) → sp vs H Q E → r_flips_of_kind X (fun cls d _ H => E cls d H) { nx := fun _ H' => Q .non H', rt := Q } (start N_flips_of_kind vs) H) :
    FnS P w K mg base (He.ga K ("flips_of_kind" : Str)) (k + 1) [("row" : Str), ("kind" : Str)] sp := by
  obtain ⟨fd, F⟩ := T.c.def_ 21
  exact fn_ok F sc_flips_of_kind (fun _ _ _ _ _ _ us hl => match us, hl with | [_, _], _ => rfl) len _ 60 q_flips_of_kind hb
theorem mk_plain_best_flips {sp : Sp} (T : TX K mg) (len : ∀ vs H Q E, sp vs H Q E → vs.length = 3)
    (hb : ∀ (X : Cx) (vs : List V) (H : Hp) (Q : VK) (E : XK), Ctx P w K mg base k X (fun cls d _ H => E cls d H) → IsDef K ("plain_best_flips" : Str) X → sp vs H Q E → r_plain_best_flips X (fun cls d _ H => E cls d H) { nx := fun _ H' => Q .non H', rt := Q } (start N_plain_best_flips vs) H) :
    FnS P w K mg base (He.ga K ("plain_best_flips" : Str)) (k + 1) [("row" : Str), ("game" : Str), ("goal" : Str)] sp := by
  obtain ⟨fd, F⟩ := T.c.def_ 22
  exact fn_okM F sc_plain_best_flips (fun _ _ _ _ _ _ us hl => match us, hl with | [_, _, _], _ => rfl) len _ 60 q_plain_best_flips hb
theorem mk_best_flips {sp : Sp} (T : TX K mg) (len : ∀ vs H Q E, sp vs H Q E → vs.length = 3)
    (hb : ∀ (X : Cx) (vs : List V) (H : Hp) (Q : VK) (E : XK), Ctx P w K mg base k X (fun cls d _ H => E cls d H) → sp vs H Q E → r_best_flips X (fun cls d _ H => E cls d H) { nx := fun _ H' => Q .non H', rt := Q } (start N_best_flips vs) H) :
    FnS P w K mg base (He.ga K ("best_flips" : Str)) (k + 1) [("row" : Str), ("game" : Str), ("goal" : Str)] sp := by
  obtain ⟨fd, F⟩ := T.c.def_ 23
  exact fn_ok F sc_best_flips (fun _ _ _ _ _ _ us hl => match us, hl with | [_, _, _], _ => rfl) len _ 60 q_best_flips hb
theorem mk__law_stream {sp : Sp} (T : TX K mg) (len : ∀ vs H Q E, sp vs H Q E → vs.length = 2)
    (hb : ∀ (X : Cx) (vs : List V) (H : Hp) (Q : VK) (E : XK), Ctx P w K mg base k X (fun cls d _ H => E cls d H) → sp vs H Q E → r__law_stream X (fun cls d _ H => E cls d H) { nx := fun _ H' => Q .non H', rt := Q } (start N__law_stream vs) H) :
    FnS P w K mg base (He.ga K ("_law_stream" : Str)) (k + 1) [("_law_script" : Str), ("_law_k" : Str)] sp := by
  obtain ⟨fd, F⟩ := T.c.def_ 24
  exact fn_ok F sc__law_stream (fun _ _ _ _ _ _ us hl => match us, hl with | [_, _], _ => rfl) len _ 60 q__law_stream hb
theorem mk__law_draw {sp : Sp} (T : TX K mg) (len : ∀ vs H Q E, sp vs H Q E → vs.length = 2)
    (hb : ∀ (X : Cx) (vs : List V) (H : Hp) (Q : VK) (E : XK), Ctx P w K mg base k X (fun cls d _ H => E cls d H) → sp vs H Q E → r__law_draw X (fun cls d _ H => E cls d H) { nx := fun _ H' => Q .non H', rt := Q } (start N__law_draw vs) H) :
    FnS P w K mg base (He.ga K ("_law_draw" : Str)) (k + 1) [("_law_stream_here" : Str), ("_law_count" : Str)] sp := by
  obtain ⟨fd, F⟩ := T.c.def_ 25
  exact fn_ok F sc__law_draw (fun _ _ _ _ _ _ us hl => match us, hl with | [_, _], _ => rfl) len _ 60 q__law_draw hb
theorem mk__law_cost {sp : Sp} (T : TX K mg) (len : ∀ vs H Q E, sp vs H Q E → vs.length = 4)
    (hb : ∀ (X : Cx) (vs : List V) (H : Hp) (Q : VK) (E : XK), Ctx P w K mg base k X (fun cls d _ H => E cls d H) → sp vs H Q E → r__law_cost X (fun cls d _ H => E cls d H) { nx := fun _ H' => Q .non H', rt := Q } (start N__law_cost vs) H) :
    FnS P w K mg base (He.ga K ("_law_cost" : Str)) (k + 1) [("_law_runs" : Str), ("_law_first" : Str), ("_law_game" : Str), ("_law_goal" : Str)] sp := by
  obtain ⟨fd, F⟩ := T.c.def_ 26
  exact fn_ok F sc__law_cost (fun _ _ _ _ _ _ us hl => match us, hl with | [_, _, _, _], _ => rfl) len _ 60 q__law_cost hb
theorem mk__law_after {sp : Sp} (T : TX K mg) (len : ∀ vs H Q E, sp vs H Q E → vs.length = 3)
    (hb : ∀ (X : Cx) (vs : List V) (H : Hp) (Q : VK) (E : XK), Ctx P w K mg base k X (fun cls d _ H => E cls d H) → sp vs H Q E → r__law_after X (fun cls d _ H => E cls d H) { nx := fun _ H' => Q .non H', rt := Q } (start N__law_after vs) H) :
    FnS P w K mg base (He.ga K ("_law_after" : Str)) (k + 1) [("_law_runs" : Str), ("_law_first" : Str), ("_law_kind" : Str)] sp := by
  obtain ⟨fd, F⟩ := T.c.def_ 27
  exact fn_ok F sc__law_after (fun _ _ _ _ _ _ us hl => match us, hl with | [_, _, _], _ => rfl) len _ 60 q__law_after hb
theorem mk__law_numbers {sp : Sp} (T : TX K mg) (len : ∀ vs H Q E, sp vs H Q E → vs.length = 4)
    (hb : ∀ (X : Cx) (vs : List V) (H : Hp) (Q : VK) (E : XK), Ctx P w K mg base k X (fun cls d _ H => E cls d H) → sp vs H Q E → r__law_numbers X (fun cls d _ H => E cls d H) { nx := fun _ H' => Q .non H', rt := Q } (start N__law_numbers vs) H) :
    FnS P w K mg base (He.ga K ("_law_numbers" : Str)) (k + 1) [("_law_runs" : Str), ("_law_first" : Str), ("_law_game" : Str), ("_law_goal" : Str)] sp := by
  obtain ⟨fd, F⟩ := T.c.def_ 28
  exact fn_ok F sc__law_numbers (fun _ _ _ _ _ _ us hl => match us, hl with | [_, _, _, _], _ => rfl) len _ 60 q__law_numbers hb
theorem lam__law_outcome {y : Str} {σ : L2.St} {H : Hp} {Q : VK} {tb : Cx → TE} {j : Nat} (T : TX K mg) (C : Ctx P w K mg base k X W) [TabF K mg base (y, none)] (d : IsDef K y X) (hj : j + 2 ≤ k) (hT : TabH K H y)
    (hb : ∀ (H1 : Hp) (f c' : Addr), LamX.ExtN H H1 → TabH K H1 y → H1 c' = some (LamX.CodeO c' (y ++ ".<locals>." ++ "<lambda>")) → ∀ Z, Ctx P w K mg base (j + 1) Z (fun cls d _ H => W cls d σ H) → ActsC P w K mg base j σ tb c' f (y ++ ".<locals>." ++ "<lambda>") Z →
      r__law_outcome Z (fun cls d _ H => W cls d σ H) { nx := fun _ H' => Q .non H', rt := Q } (start N__law_outcome [.ref f]) H1) : tLamR X ("_law_outcome" : Str) tb σ H Q := by
  obtain ⟨fd, F⟩ := T.c.def_ 29
  exact lam_fn C d (g__law_outcome T C) F sc__law_outcome (fun _ _ _ _ _ _ us hl => match us, hl with | [_], _ => rfl) _ 60 q__law_outcome hj hT hb
theorem lamZ__law_outcome {y : Str} {σ : L2.St} {H : Hp} {Q : VK} {tb : Cx → TE} {j : Nat} (T : TX K mg) (C : Ctx P w K mg base k X W) [TabF K mg base (y, none)] (d : IsDef K y X) (hj : j + 2 ≤ k) (hT : TabH K H y) (zs : List Str) (hz : ∀ z ∈ zs, (He.cT K (z, none)).2 ≠ (He.cT K (y, none)).2 ∧ TabH K H z)
    (hb : ∀ (H1 : Hp) (f c' : Addr), LamX.ExtN H H1 → TabH K H1 y → (∀ z ∈ zs, TabH K H1 z) → H1 c' = some (LamX.CodeO c' (y ++ ".<locals>." ++ "<lambda>")) → ∀ Z, Ctx P w K mg base (j + 1) Z (fun cls d _ H => W cls d σ H) → ActsC P w K mg base j σ tb c' f (y ++ ".<locals>." ++ "<lambda>") Z →
      r__law_outcome Z (fun cls d _ H => W cls d σ H) { nx := fun _ H' => Q .non H', rt := Q } (start N__law_outcome [.ref f]) H1) : tLamR X ("_law_outcome" : Str) tb σ H Q := by
  obtain ⟨fd, F⟩ := T.c.def_ 29
  exact lam_fnZ C d (g__law_outcome T C) F sc__law_outcome (fun _ _ _ _ _ _ us hl => match us, hl with | [_], _ => rfl) _ 60 q__law_outcome hj hT zs hz hb
theorem mk__law_outcome {sp : Sp} (T : TX K mg) (len : ∀ vs H Q E, sp vs H Q E → vs.length = 1)
    (hb : ∀ (X : Cx) (vs : List V) (H : Hp) (Q : VK) (E : XK), Ctx P w K mg base k X (fun cls d _ H => E cls d H) → sp vs H Q E → r__law_outcome X (fun cls d _ H => E cls d H) { nx := fun _ H' => Q .non H', rt := Q } (start N__law_outcome vs) H) :
    FnS P w K mg base (He.ga K ("_law_outcome" : Str)) (k + 1) [("_law_call" : Str)] sp := by
  obtain ⟨fd, F⟩ := T.c.def_ 29
  exact fn_ok F sc__law_outcome (fun _ _ _ _ _ _ us hl => match us, hl with | [_], _ => rfl) len _ 60 q__law_outcome hb
theorem mk__law_listed {sp : Sp} (T : TX K mg) (len : ∀ vs H Q E, sp vs H Q E → vs.length = 4)
    (hb : ∀ (X : Cx) (vs : List V) (H : Hp) (Q : VK) (E : XK), Ctx P w K mg base k X (fun cls d _ H => E cls d H) → sp vs H Q E → r__law_listed X (fun cls d _ H => E cls d H) { nx := fun _ H' => Q .non H', rt := Q } (start N__law_listed vs) H) :
    FnS P w K mg base (He.ga K ("_law_listed" : Str)) (k + 1) [("_law_row" : Str), ("_law_game" : Str), ("_law_goal" : Str), ("_law_number" : Str)] sp := by
  obtain ⟨fd, F⟩ := T.c.def_ 30
  exact fn_ok F sc__law_listed (fun _ _ _ _ _ _ us hl => match us, hl with | [_, _, _, _], _ => rfl) len _ 60 q__law_listed hb
theorem mk_law {sp : Sp} (T : TX K mg) (len : ∀ vs H Q E, sp vs H Q E → vs.length = 1)
    (hb : ∀ (base : Heap), (∀ p ∈ tf, TabF K mg base p) → ∀ (X : Cx) (vs : List V) (H : Hp) (Q : VK) (E : XK), Ctx P w K mg base k X (fun cls d _ H => E cls d H) → IsDef K "law" X → sp vs H Q E → r_law X (fun cls d _ H => E cls d H) { nx := fun _ H' => Q .non H', rt := Q } (start N_law vs) H) :
    FnLT P w K mg tf (He.ga K "law") (k + 1) ("_law_script" : Str) sp := by
  obtain ⟨fd, F⟩ := T.c.def_ 31
  exact fn_okLT F sc_law (fun _ _ _ _ _ _ us hl => match us, hl with | [_], _ => rfl) len _ 60 q_law hb
theorem g0_law : ∀ K : PySem.W.Frag, SaysV fa fn K → fGlo ("law" : Str) K = true := fun K c => c.fact 224
end

def al : List Addr := [3, 6, 4, 21, 31, 44, 56, 68, 80, 92, 113, 126, 148, 158, 165, 172, 179, 309, 320, 321, 328, 396, 401, 408, 415, 420, 427, 434, 439, 444, 451, 456, 461, 468, 475, 482, 489, 496, 503, 510, 517, 524, 529, 536, 20, 30, 43, 55, 67, 79, 91, 112, 125, 147, 157, 164, 171, 178, 308, 319, 327, 395, 407, 414, 419, 426, 433, 438, 443, 450, 455, 460, 467, 474, 481, 488, 495, 502, 509, 516, 523, 528, 535, 15, 16, 17, 18, 19, 29, 32, 42, 54, 66, 78, 90, 110, 111, 114, 124, 127, 145, 146, 149, 152, 153, 154, 155, 156, 159, 160, 161, 162, 163, 166, 167, 168, 169, 170, 173, 174, 175, 176, 177, 191, 199, 207, 215, 223, 231, 238, 245, 252, 257, 264, 271, 278, 285, 292, 299, 306, 307, 310, 311, 314, 315, 316, 317, 318, 322, 323, 324, 325, 326, 342, 350, 358, 365, 372, 379, 386, 393, 394, 397, 398, 402, 403, 404, 405, 406, 409, 410, 411, 412, 413, 416, 417, 418, 421, 422, 423, 424, 425, 428, 429, 430, 431, 432, 435, 436, 437, 440, 441, 442, 445, 446, 447, 448, 449, 452, 453, 454, 457, 458, 459, 462, 463, 464, 465, 466, 469, 470, 471, 472, 473, 476, 477, 478, 479, 480, 483, 484, 485, 486, 487, 490, 491, 492, 493, 494, 497, 498, 499, 500, 501, 504, 505, 506, 507, 508, 511, 512, 513, 514, 515, 518, 519, 520, 521, 522, 525, 526, 527, 530, 531, 532, 533, 534, 109, 144, 190, 198, 206, 214, 222, 230, 237, 244, 251, 256, 263, 270, 277, 284, 291, 298, 305, 341, 349, 357, 364, 371, 378, 385, 392, 104, 105, 106, 107, 108, 139, 140, 141, 142, 143, 187, 188, 189, 197, 205, 213, 221, 229, 232, 233, 234, 235, 236, 239, 240, 241, 242, 243, 246, 247, 248, 249, 250, 253, 254, 255, 258, 259, 260, 261, 262, 265, 266, 267, 268, 269, 272, 273, 274, 275, 276, 279, 280, 281, 282, 283, 286, 287, 288, 289, 290, 293, 294, 295, 296, 297, 300, 301, 302, 303, 304, 336, 337, 338, 339, 340, 348, 356, 359, 360, 361, 362, 363, 366, 367, 368, 369, 370, 373, 374, 375, 376, 377, 380, 381, 382, 383, 384, 387, 388, 389, 390, 391, 192, 193, 194, 195, 196, 200, 201, 202, 203, 204, 208, 209, 210, 211, 212, 216, 217, 218, 219, 220, 224, 225, 226, 227, 228, 343, 344, 345, 346, 347, 351, 352, 353, 354, 355, 98, 133, 2]
abbrev RO : PySem.W.OpenRow := PySem.W.OpenLaw.row PySem.Challenge.rw_twocolourflips_k17_numbers_of_best_flips
abbrev hk : PySem.W.Hook := hookL al fa fn tf
def ob (s : PySem.W.SharedT) : AlV × Bool := obsL al fa fn tf (HandSHeadRun.getT s)
theorem ob_eq (s : PySem.W.SharedT) : ob s = hk.obs s.abs := obsL_eq (HandSHeadRun.getT_eq s)
def loose : List Str := (["_wall", "FlipError", "InvalidRow", "InvalidFlip", "InvalidGame", "InvalidGoal", "InvalidNumber", "NoPlace", "NotAllowed", "LimitExceeded", "is_number", "is_count", "is_colour", "MAX_RUNS", "MAX_LENGTH", "joined", "Row", "check_row", "GAMES", "check_game", "Flip", "GOALS", "check_goal", "check_words", "sorting_cost", "plain_cost", "MAX_BEST", "numbers_by_kind", "state_after", "kinds_of_game"] : List Str) ++ (["best_kinds", "count_best", "flips_of_kind", "plain_best_flips", "best_flips", "_law_stream", "_law_draw", "_law_choose", "_law_cost", "_law_after", "_law_numbers", "_law_outcome", "_law_listed"] : List Str)
set_option maxHeartbeats 0 in
theorem run (w : World) : HandSHeadRun.RunEq RO (PySem.W.view RO.prog [50]) hk ob 20000 loose w := by
  intro os
  kernel_rfl
instance : PF (PySem.W.OpenLaw.prog PySem.Challenge.rw_twocolourflips_k17_numbers_of_best_flips) := ⟨by kernel_rfl, by kernel_rfl⟩
section
open PySem PySem.W PySem.Calls PyProof.Rows
set_option maxHeartbeats 0 in
theorem h_law (h : OpenRow.wellSaid (OpenLaw.row PySem.Challenge.rw_twocolourflips_k17_numbers_of_best_flips) = true → OpenRow.Holds (OpenLaw.row PySem.Challenge.rw_twocolourflips_k17_numbers_of_best_flips)) : PySem.Challenge.rw_twocolourflips_k17_numbers_of_best_flips.Holds := by
  w_on; o_law
  exact h (by assumption)
set_option maxHeartbeats 0 in
theorem h_bare : RO.prog.bare := ⟨rfl, rfl, rfl, rfl, rfl, by decide +kernel⟩
end

/-- one step of a reading that asks nothing -/
local macro_rules | `(tactic| walk_at "v1") => `(tactic| first
  | with_reducible refine s_seq ?_
  | with_reducible refine s_asg ?_
  | with_reducible refine s_gname ?_
  | with_reducible refine s_ret ?_
  | with_reducible refine s_ifS ?_
  | with_reducible refine s_c ?_
  | with_reducible refine s_bin ?_
  | with_reducible refine s_tru ?_
  | with_reducible refine s_cons ?_
  | with_reducible refine s_nil ?_
  | with_reducible refine s_atr ?_
  | with_reducible refine s_ix ?_
  | with_reducible refine s_not ?_
  | with_reducible refine s_and ?_
  | with_reducible refine s_or ?_
  | with_reducible refine s_andE ?_
  | with_reducible refine s_orE ?_
  | with_reducible refine s_uny ?_
  | with_reducible refine s_ch ?_
  | with_reducible refine s_test ?_
  | with_reducible refine s_tup ?_
  | with_reducible refine s_lst ?_
  | with_reducible refine s_drop ?_
  | with_reducible refine s_next ?_
  | with_reducible refine s_satr ?_
  | with_reducible refine s_gix ?_
  | with_reducible refine s_par ?_
  | with_reducible refine s_slc ?_
  | with_reducible refine s_mat ?_
  | with_reducible refine s_caseV ?_
  | with_reducible refine s_caseD ?_
  | with_reducible refine s_par3 ?_
  | with_reducible refine s_nopart ?_
  | with_reducible refine s_part ?_
  | with_reducible refine s_mth ?_
  | with_reducible refine s_ifT ?_
  | with_reducible refine s_augS ?_
  | with_reducible refine s_retN ?_
  | with_reducible refine s_brk ?_
  | with_reducible refine s_cont ?_
  | with_reducible refine nx_mk ?_
  | with_reducible refine ct_mk ?_
  | with_reducible refine bk_mk ?_
  | with_reducible refine rt_mk ?_
  | with_reducible refine iteT ?_
  | with_reducible refine iteF ?_
  | with_reducible refine s_nf ?_
  | with_reducible refine s_nt ?_
  | with_reducible refine tru_b ?_
  | with_reducible refine add_ii ?_
  | with_reducible refine sub_ii ?_
  | with_reducible refine neg_i ?_
  | with_reducible refine lt_ii ?_
  | with_reducible refine le_ii ?_
  | with_reducible refine gt_ii ?_
  | with_reducible refine ge_ii ?_
  | with_reducible refine eq_ii ?_
  | with_reducible refine ne_ii ?_
  | with_reducible refine not_b ?_
  | ((with_reducible refine' s_var ?h ?_); (case h => rfl)))
local macro_rules | `(tactic| walk_at "new") => `(tactic| (refine ⟨szr rfl, ?_⟩; intro p np; generalize e : upd _ p _ = H2; have s := new_of np e; clear e; revert s; revert H2; revert np; revert p))
local macro_rules | `(tactic| walk_at "newp") => `(tactic| (intro p np; generalize e : upd _ p _ = H2; have s := new_of np e; clear e; revert s; revert H2; revert np; revert p))
local macro_rules | `(tactic| walk_at "v") => `(tactic| first
  | walk_at "v1"
  | ((with_reducible refine' s_call (g_Flip ?T ?C) ?_); (case T => assumption); (case C => assumption))
  | ((with_reducible refine' s_gloR (g_Flip ?T ?C) ?_); (case T => assumption); (case C => assumption))
  | ((with_reducible refine' s_gloA (m_GAMES ?T ?C) ?_); (case T => assumption); (case C => assumption))
  | ((with_reducible refine' s_gloA (m_GOALS ?T ?C) ?_); (case T => assumption); (case C => assumption))
  | ((with_reducible refine' s_rai (g_InvalidFlip ?T ?C) ?_); (case T => assumption); (case C => assumption))
  | ((with_reducible refine' s_gloR (g_InvalidFlip ?T ?C) ?_); (case T => assumption); (case C => assumption))
  | ((with_reducible refine' s_rai (g_InvalidGame ?T ?C) ?_); (case T => assumption); (case C => assumption))
  | ((with_reducible refine' s_gloR (g_InvalidGame ?T ?C) ?_); (case T => assumption); (case C => assumption))
  | ((with_reducible refine' s_rai (g_InvalidGoal ?T ?C) ?_); (case T => assumption); (case C => assumption))
  | ((with_reducible refine' s_gloR (g_InvalidGoal ?T ?C) ?_); (case T => assumption); (case C => assumption))
  | ((with_reducible refine' s_rai (g_InvalidRow ?T ?C) ?_); (case T => assumption); (case C => assumption))
  | ((with_reducible refine' s_gloR (g_InvalidRow ?T ?C) ?_); (case T => assumption); (case C => assumption))
  | ((with_reducible refine' s_rai (g_LimitExceeded ?T ?C) ?_); (case T => assumption); (case C => assumption))
  | ((with_reducible refine' s_gloR (g_LimitExceeded ?T ?C) ?_); (case T => assumption); (case C => assumption))
  | ((with_reducible refine' s_gloI (v_MAX_BEST ?T ?C) ?_); (case T => assumption); (case C => assumption))
  | ((with_reducible refine' s_gloI (v_MAX_LENGTH ?T ?C) ?_); (case T => assumption); (case C => assumption))
  | ((with_reducible refine' s_gloI (v_MAX_RUNS ?T ?C) ?_); (case T => assumption); (case C => assumption))
  | ((with_reducible refine' s_call (g_OverflowError ?T ?C) ?_); (case T => assumption); (case C => assumption))
  | ((with_reducible refine' s_gloT (g_OverflowError ?T ?C) ?_); (case T => assumption); (case C => assumption))
  | ((with_reducible refine' s_call (g_Row ?T ?C) ?_); (case T => assumption); (case C => assumption))
  | ((with_reducible refine' s_gloR (g_Row ?T ?C) ?_); (case T => assumption); (case C => assumption))
  | ((with_reducible refine' s_call (g__law_after ?T ?C) ?_); (case T => assumption); (case C => assumption))
  | ((with_reducible refine' s_call (g__law_cost ?T ?C) ?_); (case T => assumption); (case C => assumption))
  | ((with_reducible refine' s_call (g__law_draw ?T ?C) ?_); (case T => assumption); (case C => assumption))
  | ((with_reducible refine' s_call (g__law_listed ?T ?C) ?_); (case T => assumption); (case C => assumption))
  | ((with_reducible refine' s_call (g__law_numbers ?T ?C) ?_); (case T => assumption); (case C => assumption))
  | ((with_reducible refine' s_call (g__law_outcome ?T ?C) ?_); (case T => assumption); (case C => assumption))
  | ((with_reducible refine' s_call (g__law_stream ?T ?C) ?_); (case T => assumption); (case C => assumption))
  | ((with_reducible refine' s_call (g_all ?T ?C) ?_); (case T => assumption); (case C => assumption))
  | ((with_reducible refine' s_call (g_best_flips ?T ?C) ?_); (case T => assumption); (case C => assumption))
  | ((with_reducible refine' s_call (g_best_kinds ?T ?C) ?_); (case T => assumption); (case C => assumption))
  | ((with_reducible refine' s_call (g_bool ?T ?C) ?_); (case T => assumption); (case C => assumption))
  | ((with_reducible refine' s_gloT (g_bool ?T ?C) ?_); (case T => assumption); (case C => assumption))
  | ((with_reducible refine' s_call (g_check_game ?T ?C) ?_); (case T => assumption); (case C => assumption))
  | ((with_reducible refine' s_call (g_check_goal ?T ?C) ?_); (case T => assumption); (case C => assumption))
  | ((with_reducible refine' s_call (g_check_words ?T ?C) ?_); (case T => assumption); (case C => assumption))
  | ((with_reducible refine' s_call (g_count_best ?T ?C) ?_); (case T => assumption); (case C => assumption))
  | ((with_reducible refine' s_call (g_flips_of_kind ?T ?C) ?_); (case T => assumption); (case C => assumption))
  | ((with_reducible refine' s_call (g_int ?T ?C) ?_); (case T => assumption); (case C => assumption))
  | ((with_reducible refine' s_gloT (g_int ?T ?C) ?_); (case T => assumption); (case C => assumption))
  | ((with_reducible refine' s_call (g_is_colour ?T ?C) ?_); (case T => assumption); (case C => assumption))
  | ((with_reducible refine' s_call (g_is_count ?T ?C) ?_); (case T => assumption); (case C => assumption))
  | ((with_reducible refine' s_call (g_is_number ?T ?C) ?_); (case T => assumption); (case C => assumption))
  | ((with_reducible refine' s_call (g_isinstance ?T ?C) ?_); (case T => assumption); (case C => assumption))
  | ((with_reducible refine' s_call (g_kinds_of_game ?T ?C) ?_); (case T => assumption); (case C => assumption))
  | ((with_reducible refine' s_call (g_len ?T ?C) ?_); (case T => assumption); (case C => assumption))
  | ((with_reducible refine' s_call (g_list ?T ?C) ?_); (case T => assumption); (case C => assumption))
  | ((with_reducible refine' s_gloT (g_list ?T ?C) ?_); (case T => assumption); (case C => assumption))
  | ((with_reducible refine' s_call (g_max ?T ?C) ?_); (case T => assumption); (case C => assumption))
  | ((with_reducible refine' s_call (g_min ?T ?C) ?_); (case T => assumption); (case C => assumption))
  | ((with_reducible refine' s_call (g_numbers_by_kind ?T ?C) ?_); (case T => assumption); (case C => assumption))
  | ((with_reducible refine' s_call (g_plain_best_flips ?T ?C) ?_); (case T => assumption); (case C => assumption))
  | ((with_reducible refine' s_call (g_plain_cost ?T ?C) ?_); (case T => assumption); (case C => assumption))
  | ((with_reducible refine' s_call (g_range ?T ?C) ?_); (case T => assumption); (case C => assumption))
  | ((with_reducible refine' s_gloT (g_range ?T ?C) ?_); (case T => assumption); (case C => assumption))
  | ((with_reducible refine' s_call (g_sorted ?T ?C) ?_); (case T => assumption); (case C => assumption))
  | ((with_reducible refine' s_call (g_sorting_cost ?T ?C) ?_); (case T => assumption); (case C => assumption))
  | ((with_reducible refine' s_call (g_state_after ?T ?C) ?_); (case T => assumption); (case C => assumption))
  | ((with_reducible refine' s_call (g_str ?T ?C) ?_); (case T => assumption); (case C => assumption))
  | ((with_reducible refine' s_gloT (g_str ?T ?C) ?_); (case T => assumption); (case C => assumption))
  | ((with_reducible refine' s_call (g_sum ?T ?C) ?_); (case T => assumption); (case C => assumption)))

section
variable {P : Program} {w : World} {K : PySem.W.Frag} {mg : Str → Option Value} {base : Heap}
theorem ok_is_number (T : TX K mg) : FnS P w K mg base (He.ga K "is_number") 1 ["candidate", "least", "greatest"] (spIsNumber K) := by
  refine mk_is_number T (fun vs H Q E h => ?_) (fun X vs H Q E C h => ?_)
  · obtain ⟨x, t, lo, hi, rfl, _⟩ := h
    rfl
  obtain ⟨x, t, lo, hi, rfl, nk, q⟩ := h
  unfold r_is_number
  repeat walk_at "v"
  have odd : numV x = false → isNum lo hi x = false := fun h => by cases x <;> first | rfl | cases h
  cases hn : numV x with
  | false =>
    refine isi C (.ty _) nk.ty (nk.no hn) ?_
    repeat walk_at "v"
    rw [odd hn] at q
    exact q
  | true =>
    cases x with
    | int i =>
      obtain rfl := ty_int nk.ty
      refine isi C (.ty _) nk.ty (kit_ty (r := true) (by decide +kernel)) ?_
      repeat walk_at "v"
      refine isi C (.ty _) nk.ty (kit_ty (r := false) (by decide +kernel)) ?_
      repeat walk_at "v"
      refine ⟨_, rfl, s_ite (fun a => ?_) (fun a => ?_)⟩
      · repeat walk_at "v"
        have z : Q (.bl (decide (lo ≤ i) && decide (i ≤ hi))) H := q
        rw [decide_eq_true a, Bool.true_and] at z
        exact z
      · have z : Q (.bl (decide (lo ≤ i) && decide (i ≤ hi))) H := q
        rw [decide_eq_false a, Bool.false_and] at z
        exact z
    | bl b =>
      obtain rfl := ty_bl nk.ty
      refine isi C (.ty _) nk.ty (kit_ty (r := true) (by decide +kernel)) ?_
      repeat walk_at "v"
      refine isi C (.ty _) nk.ty (kit_ty (r := true) (by decide +kernel)) ?_
      repeat walk_at "v"
      exact q
    | _ => cases hn
theorem ok_is_colour (T : TX K mg) : FnS P w K mg base (He.ga K "is_colour") 2 ["candidate"] (spIsColour K) := by
  refine mk_is_colour T (fun vs H Q E h => ?_) (fun X vs H Q E C h => ?_)
  · obtain ⟨x, t, rfl, _⟩ := h
    rfl
  obtain ⟨x, t, rfl, nk, q⟩ := h
  unfold r_is_colour
  repeat walk_at "v"
  exact cv_fn C (ok_is_number T) (by omega) ⟨x, t, 0, 1, rfl, nk, q⟩
end

section
variable {P : Program} {w : World} {K : PySem.W.Frag} {mg : Str → Option Value} {base : Heap}
theorem ok__law_stream (T : TX K mg) : FnS P w K mg base (He.ga K "_law_stream") 1 ["_law_script", "_law_k"] (spStream K) := by
  refine mk__law_stream T (fun vs H Q E h => ?_) (fun X vs H Q E C h => ?_)
  · obtain ⟨a, ns, k, rfl, _⟩ := h
    rfl
  obtain ⟨a, ns, k, rfl, hS, hk, q⟩ := h
  unfold r__law_stream
  -- what follows the choice of the cell, for every cell
  have rest : ∀ c : Int, (tSeq (tAsg (tCallG X ("max" : Str) (tCons (tVar 2) (tCons (tBin X (binaryOp .Sub) (tUny X (unaryOp .USub) (tC (.int 1))) (tVar 2)) tNil))) (gName 3))
      (tSeq (tAsg (tBin X (binaryOp .Mod) (tBin X (binaryOp .Mult) (tBin X (binaryOp .Add) (tBin X (binaryOp .Add) (tBin X (binaryOp .Add) (tBin X (binaryOp .Mod) (tVar 3) (tC (.int 2147483629))) (tBin X (binaryOp .Mult) (tBin X (binaryOp .Mult) (tC (.int 7919)) (tVar 1)) (tVar 1))) (tBin X (binaryOp .Mult) (tC (.int 31)) (tVar 1))) (tC (.int 17))) (tC (.int 48271))) (tC (.int 2147483647))) (gName 4))
      (tRet (tLst (tCons (tBin X (binaryOp .Mult) (tVar 3) (tCallG X ("int" : Str) (tCons (tBin X (compareOp .GtE) (tVar 3) (tBin X (binaryOp .Pow) (tC (.int 10)) (tC (.int 18)))) tNil))) (tCons (tVar 4) tNil)))))) { nx := fun _ H' => Q .non H', rt := Q } [some (.ref a), some (.int k), some (.int c), none, none] H := by
    intro c
    repeat walk_at "v"
    refine max_2 C ?_
    repeat walk_at "v"
    refine mod_ii (by decide) ?_
    repeat walk_at "v"
    refine mul_ii (.inl (by decide)) ?_
    repeat walk_at "v"
    refine mul_ii (.inr (by omega)) ?_
    repeat walk_at "v"
    refine mul_ii (.inl (by decide)) ?_
    repeat walk_at "v"
    refine mul_ii (.inr (by decide)) ?_
    repeat walk_at "v"
    refine mod_ii (by decide) ?_
    repeat walk_at "v"
    refine pow_ii (by unfold CPow; decide) ?_
    repeat walk_at "v"
    refine int_b ?_
    refine mul_ii (.inr (b01 _)) ?_
    repeat walk_at "v"
    refine ⟨by show 2 ≤ sizeLine; decide, fun p hp => ?_⟩
    exact q p _ hp (same_upd hp) ⟨_, _, upd_same, Int.emod_nonneg _ (by decide), Int.lt_trans (Int.emod_lt_of_pos _ (by decide)) (by decide)⟩
  repeat walk_at "v"
  refine len_l C hS ?_
  rw [List.length_map]
  repeat walk_at "v"
  refine s_ite (fun hl => ?_) (fun hl => ?_)
  · repeat walk_at "v"
    have hl' : k < ns.length := by omega
    refine ix_l C hS (at_of (j := k) (v := .int ns[k]) rfl (by rw [List.getElem?_map, List.getElem?_eq_getElem hl'] <;> rfl)) ?_
    exact rest _
  · exact rest _
theorem ok__law_draw (T : TX K mg) : FnS P w K mg base (He.ga K "_law_draw") 1 ["_law_stream_here", "_law_count"] spDraw := by
  refine mk__law_draw T (fun vs H Q E h => ?_) (fun X vs H Q E C h => ?_)
  · obtain ⟨l, n, rfl, _⟩ := h
    rfl
  obtain ⟨l, n, rfl, ⟨a, b, hl, b0, b1⟩, n0, n1, q⟩ := h
  unfold r__law_draw
  repeat walk_at "v"
  refine ix_l C (.of hl) (v := .int a) rfl ?_
  repeat walk_at "v"
  refine s_ite (fun ha => ?_) (fun ha => ?_)
  · repeat walk_at "v"
    refine ix_l C (.of hl) (v := .int a) rfl ?_
    repeat walk_at "v"
    refine mod_ii n0 ?_
    repeat walk_at "v"
    refine ix_l C (.of hl) (v := .int a) rfl ?_
    repeat walk_at "v"
    refine div_ii n0 n1 ?_
    repeat walk_at "v"
    refine set_l (n := 0) hl rfl ?_
    repeat walk_at "v"
    exact q _ _ (Int.emod_nonneg _ (by omega)) (Int.emod_lt_of_pos _ n0) SameX.upd ⟨_, _, upd_same, b0, b1⟩
  · repeat walk_at "v"
    refine ix_l C (.of hl) (v := .int b) rfl ?_
    repeat walk_at "v"
    refine mul_ii (.inr (by decide)) ?_
    repeat walk_at "v"
    refine mod_ii (by decide) ?_
    repeat walk_at "v"
    refine set_l (n := 1) hl rfl ?_
    repeat walk_at "v"
    have d0 : 0 ≤ (b * 69621 + 7) % 2147483647 := Int.emod_nonneg _ (by decide)
    have d1 : (b * 69621 + 7) % 2147483647 < 2147483647 := Int.emod_lt_of_pos _ (by decide)
    refine ix_l C (.of upd_same) (v := .int ((b * 69621 + 7) % 2147483647)) rfl ?_
    repeat walk_at "v"
    refine ix_l C (.of upd_same) (v := .int ((b * 69621 + 7) % 2147483647)) rfl ?_
    repeat walk_at "v"
    refine mul_ii (.inl (by omega)) ?_
    repeat walk_at "v"
    refine mod_ii (by decide) ?_
    repeat walk_at "v"
    refine div_ii (by decide) (small_div (by decide)) ?_
    repeat walk_at "v"
    refine mod_ii n0 ?_
    exact q _ _ (Int.emod_nonneg _ (by omega)) (Int.emod_lt_of_pos _ n0) SameX.upd ⟨_, _, upd_same, d0, by omega⟩
end

section
variable {P : Program} {w : World} {K : PySem.W.Frag} {mg : Str → Option Value} {base : Heap}
/-! ### rows -/
abbrev M30 : Int := 1000000000000000000000000000000
/-- a colour and lengths that make a row -/
def okRow (c : V) (ns : List Int) : Bool := isNum 0 1 c && (decide (ns.length ≤ 2000) && ((ns.all fun n => decide (1 ≤ n) && decide (n ≤ M30)) && (decide (ns.sum ≤ M30) && !(decide (ns = []) && decide (c = .int 1)))))
theorem isNum01' {c : Int} (h : c = 0 ∨ c = 1) : isNum 0 1 (.int c) = true := by rcases h with rfl | rfl <;> rfl
abbrev cRow (K : PySem.W.Frag) : Addr := He.ga K "Row"
def rwF (c : Int) (l : Addr) : List (Str × V) := [("colour", .int c), ("sizes", .ref l)]
/-- a row stands at p, its list at l -/
def RowAt (K : PySem.W.Frag) (H : Hp) (p : Addr) (c : Int) (ns : List Int) : Prop := ∃ dx l, H p = some (.ins (cRow K) dx (rwF c l)) ∧ H l = some (.lst (ns.map V.int))
def RowL (K : PySem.W.Frag) (H : Hp) (p : Addr) (c : Int) (ns : List Int) (l : Addr) : Prop := ∃ dx, H p = some (.ins (cRow K) dx (rwF c l)) ∧ H l = some (.lst (ns.map V.int))
theorem RowL.at {H : Hp} {p l : Addr} {c : Int} {ns : List Int} (h : RowL K H p c ns l) : RowAt K H p c ns := let ⟨dx, a, b⟩ := h; ⟨dx, l, a, b⟩
theorem RowAt.same {H H' : Hp} {p : Addr} {c : Int} {ns : List Int} (h : RowAt K H p c ns) (s : Same H H') : RowAt K H' p c ns := let ⟨dx, l, h, g⟩ := h; ⟨dx, l, s _ _ h, s _ _ g⟩
/-- what Row.__init__ is given for lengths: a list of ints, or something else (a list with other values in it, or no list) -/
def LenK (K : PySem.W.Frag) (H : Hp) (y : V) : Option (List Int) → Prop
  | none => (∃ t, TyX K H y t ∧ PySem.W.kitOne K t (.type "list") = some false) ∨
    (∃ a xs, y = .ref a ∧ SqL K H a xs ∧ TyX K H y (.type "list") ∧ (∀ x ∈ xs, ∃ t, NumK K H x t) ∧ xs.all (isNum 1 M30) = false)
  | some ns => ∃ a, y = .ref a ∧ SqL K H a (ns.map V.int) ∧ TyX K H y (.type "list")
def okR (x : V) : Option (List Int) → Bool
  | none => false
  | some ns => okRow x ns
theorem LenK.same {H H' : Hp} {y : V} {o : Option (List Int)} (h : LenK K H y o) (s : Same H H') : LenK K H' y o := by
  cases o with
  | none =>
    rcases h with ⟨t, ty, kt⟩ | ⟨a, xs, rfl, hs, ty, hn, ho⟩
    · exact .inl ⟨t, Same_ty s ty, kt⟩
    · exact .inr ⟨a, xs, rfl, SqL_same s hs, Same_ty s ty, fun x hx => let ⟨t, n⟩ := hn x hx; ⟨t, n.same s⟩, ho⟩
  | some ns =>
    obtain ⟨a, rfl, hs, ty⟩ := h
    exact ⟨a, rfl, SqL_same s hs, Same_ty s ty⟩
def spRowInit (K : PySem.W.Frag) : Sp := fun vs H Q E => ∃ p dx x y tx o, vs = [.ref p, x, y] ∧ H p = some (.ins (cRow K) dx []) ∧ NumK K H x tx ∧ LenK K H y o ∧
  (∀ c ns l H', x = .int c → o = some ns → okRow x ns = true → H l = none → H' p = some (.ins (cRow K) dx (rwF c l)) → H' l = some (.lst (ns.map V.int)) → SameX p H H' → Q .non H') ∧
  (okR x o = false → ∀ H', Same H H' → E (.ref (He.ga K "InvalidRow")) none H')
theorem nums_all : ∀ ns : List Int, (ns.map V.int).all (isNum 1 M30) = ns.all fun n => decide (1 ≤ n) && decide (n ≤ M30)
  | [] => rfl
  | n :: ns => by
    rw [List.map_cons, List.all_cons, List.all_cons, nums_all ns]
    rfl
theorem ok_Row_init (T : TX K mg) : FnS P w K mg base (He.ma K (cRow K) "__init__") 3 ["self", "first", "lengths"] (spRowInit K) := by
  refine mk_Row_init T (fun vs H Q E h => ?_) (fun X vs H Q E C h => ?_)
  · obtain ⟨p, dx, x, y, tx, ok, rfl, _⟩ := h
    rfl
  obtain ⟨p, dx, x, y, tx, o, rfl, hp, nx, ly, h1, h2⟩ := h
  unfold r_Row_init
  have bad : ∀ (σ' : L2.St) (H' : Hp) (z : Str), okR x o = false → Same H H' → MkV X (.ref (He.ga K "InvalidRow")) [.str z] σ' H' fun cls d H' => E cls d H' := fun σ' H' z hb s =>
    mk_own C PySem.F.excBase_ValueError (e_InvalidRow T).i (e_InvalidRow T).s (e_InvalidRow T).t (h2 hb H' s)
  repeat walk_at "v"
  refine cv_fn C (ok_is_colour T) (by omega) ⟨x, tx, rfl, nx, ?_⟩
  repeat walk_at "v"
  cases cx : isNum 0 1 x with
  | false =>
    have nok : okR x o = false := by
      cases o with
      | none => rfl
      | some ns =>
        show okRow x ns = false
        unfold okRow
        rw [cx]
        rfl
    repeat walk_at "v"
    exact bad _ _ _ nok (Same.refl _)
  | true =>
    repeat walk_at "v"
    have sh : (o = none ∧ ∃ t, TyX K H y t ∧ PySem.W.kitOne K t (.type "list") = some false) ∨ ∃ a xs, y = .ref a ∧ SqL K H a xs ∧ TyX K H y (.type "list") ∧ (∀ x ∈ xs, ∃ t, NumK K H x t) ∧
        ((o = none ∧ xs.all (isNum 1 M30) = false) ∨ ∃ ns : List Int, o = some ns ∧ xs = ns.map V.int) := by
      cases o with
      | none =>
        rcases ly with ⟨t, ty, kt⟩ | ⟨a, xs, rfl, hs, ty, hn, ho⟩
        · exact .inl ⟨rfl, t, ty, kt⟩
        · exact .inr ⟨a, xs, rfl, hs, ty, hn, .inl ⟨rfl, ho⟩⟩
      | some ns =>
        obtain ⟨a, rfl, hs, ty⟩ := ly
        refine .inr ⟨a, _, rfl, hs, ty, fun x hx => ?_, .inr ⟨ns, rfl, rfl⟩⟩
        obtain ⟨i, _, rfl⟩ := List.mem_map.mp hx
        exact ⟨_, NumK.int⟩
    rcases sh with ⟨rfl, t, ty, kt⟩ | ⟨a, xs, rfl, hs, ty, hn, ho⟩
    · refine isi C (.ty _) ty kt ?_
      repeat walk_at "v"
      exact bad _ _ _ rfl (Same.refl _)
    refine isi C (.ty _) ty (b := true) (kit_ty (by decide +kernel)) ?_
    repeat walk_at "v"
    refine len_l C hs ?_
    repeat walk_at "v"
    have no : (xs.all (isNum 1 M30) = false ∨ 2000 < xs.length) → okR x o = false := fun hx => by
      rcases ho with ⟨rfl, h⟩ | ⟨ns, rfl, rfl⟩
      · rfl
      · show okRow x ns = false
        unfold okRow
        rw [nums_all, List.length_map] at hx
        simp only [Bool.and_eq_false_iff, decide_eq_false_iff_not]
        rcases hx with hx | hx
        · exact .inr (.inr (.inl hx))
        · exact .inr (.inl (by omega))
    refine s_ite (fun big => ?_) (fun big => ?_)
    · repeat walk_at "v"
      exact bad _ _ _ (no (.inr (by omega))) (Same.refl _)
    repeat walk_at "v"
    refine s_lcA C ?_
    repeat walk_at "v"
    refine it_l C hs ?_
    refine lc_map hs (sz2 (by omega)) (fun v => .bl (isNum 1 M30 v)) (fun v H' R hv s r => ?_) (fun D H' hD e s => ?_)
    · refine s_gname ⟨rfl, fun Y b => ?_⟩
      have CY := C.blk b
      obtain ⟨tv, nv⟩ := hn v hv
      repeat walk_at "v"
      exact cv_fn CY (ok_is_number T) (by omega) ⟨v, tv, 1, M30, rfl, nv.same s, r _ (Same.refl _)⟩
    refine all_l C (bs := xs.map (isNum 1 M30)) (.of (by rw [List.map_map]; exact e)) ?_
    have ea : (xs.map (isNum 1 M30)).all id = xs.all (isNum 1 M30) := by rw [List.all_map]; rfl
    rw [ea]
    cases hall : xs.all (isNum 1 M30) with
    | false =>
      repeat walk_at "v"
      exact bad _ _ _ (no (.inl hall)) s
    | true =>
      repeat walk_at "v"
      rcases ho with ⟨_, h⟩ | ⟨ns, rfl, rfl⟩
      · rw [hall] at h
        cases h
      rw [List.length_map] at big
      rw [nums_all] at hall
      refine sum_l C (SqL_same s hs) ?_
      repeat walk_at "v"
      refine s_ite (fun c1 => ?_) (fun c1 => ?_)
      · repeat walk_at "v"
        refine bad _ _ _ ?_ s
        show okRow x ns = false
        unfold okRow
        simp only [Bool.and_eq_false_iff, decide_eq_false_iff_not]
        have hM : M30 = 1000000000000000000000000000000 := rfl
        exact .inr (.inr (.inr (.inl (by omega))))
      obtain ⟨c, rfl⟩ : ∃ c, x = .int c := by cases x <;> first | exact ⟨_, rfl⟩ | cases cx
      have good : ∀ (H2 : Hp), ¬ (ns = [] ∧ c = 1) → Same H H2 → SetA X ("colour" : Str) (.ref p) (.int c) (L2.start N_Row_init [.ref p, .int c, .ref a]) H2 (fun H3 => (sAtr X ("sizes" : Str) (tVar 0) (tCallG X ("list" : Str) (tCons (tVar 2) tNil))) { nx := fun _ H' => Q .non H', rt := Q } (L2.start N_Row_init [.ref p, .int c, .ref a]) H3) := fun H2 nb s2 => by
        refine set_fld C (s2 _ _ hp) (c_Row T) (n_Row_colour T) (by decide) ?_
        repeat walk_at "v"
        have hsp : SqL K (upd H2 p (.ins (cRow K) dx (putF "colour" (.int c) []))) a (ns.map V.int) := by
          rcases SqL_same s2 hs with h | h
          · rcases h with h | ⟨o, h⟩
            · refine .inl (.inl ?_)
              rw [upd_ne]
              · exact h
              · rintro rfl
                rw [s2 _ _ hp] at h
                cases h
            · refine .inl (.inr ⟨o, ?_⟩)
              rw [upd_ne]
              · exact h
              · rintro rfl
                rw [s2 _ _ hp] at h
                cases h
          · exact .inr h
        refine list_l C hsp fun l nl => ?_
        repeat walk_at "v"
        have npl : l ≠ p := by
          rintro rfl
          rw [upd_same] at nl
          cases nl
        refine set_fld C (a := p) (by rw [upd_ne (Ne.symm npl)]; exact upd_same) (c_Row T) (n_Row_sizes T) (by show 1 < 1000; decide) ?_
        repeat walk_at "v"
        have nl0 : H l = none := by
          cases eo : H l with
          | none => rfl
          | some o =>
            rw [upd_ne npl, s2 _ _ eo] at nl
            cases nl
        have ok : okRow (.int c) ns = true := by
          unfold okRow
          simp only [Bool.and_eq_true, decide_eq_true_eq, Bool.not_eq_true', Bool.and_eq_false_iff, decide_eq_false_iff_not]
          have hM : M30 = 1000000000000000000000000000000 := rfl
          refine ⟨cx, by omega, hall, by omega, ?_⟩
          by_cases e1 : ns = []
          · exact .inr fun e2 => nb ⟨e1, by cases e2; rfl⟩
          · exact .inl e1
        refine h1 c ns l _ rfl rfl ok nl0 upd_same (by rw [upd_ne npl]; exact upd_same) (fun b o nb eb => ?_)
        rw [upd_ne nb]
        by_cases ebl : b = l
        · subst ebl
          rw [upd_ne nb] at nl
          rw [s2 _ _ eb] at nl
          cases nl
        · rw [upd_ne ebl, upd_ne nb]
          exact s2 _ _ eb
      repeat walk_at "v"
      refine ⟨szr rfl, fun pe ne => ?_⟩
      have s2 := s.trans (same_upd (o := .lst []) ne)
      refine eq_il C (is := ns) (js := []) (SqL_same s2 hs) (.of upd_same) ?_
      repeat walk_at "v"
      refine s_ite (fun e1 => ?_) (fun e1 => ?_)
      · repeat walk_at "v"
        refine s_ite (fun e2 => ?_) (fun e2 => ?_)
        · repeat walk_at "v"
          refine bad _ _ _ ?_ s2
          show okRow (.int c) ns = false
          unfold okRow
          simp only [Bool.and_eq_false_iff, decide_eq_false_iff_not]
          refine .inr (.inr (.inr (.inr ?_)))
          rw [decide_eq_true e1, e2]
          rfl
        · repeat walk_at "v"
          exact good _ (fun h => e2 h.2) s2
      · repeat walk_at "v"
        exact good _ (fun h => e1 h.1) s2
/-- Row(x, y) -/
theorem new_Row {X : Cx} {W : WX} {σ : L2.St} {H : Hp} {Q : VK} {k : Nat} (T : TX K mg) (C : Ctx P w K mg base k X W) (hk : 4 ≤ k) {x y : V} {tx : Value} {o : Option (List Int)} (nx : NumK K H x tx) (ly : LenK K H y o)
    (h1 : ∀ c ns, x = .int c → o = some ns → okRow x ns = true → ∀ p l H', H p = none → H l = none → Same H H' → RowL K H' p c ns l → Q (.ref p) H') (h2 : okR x o = false → ∀ H', Same H H' → W (.ref (He.ga K "InvalidRow")) none σ H') :
    CV X (.ref (cRow K)) [x, y] σ H Q := by
  refine cv_new C (k_Row T) (ok_Row_init T) hk fun p dx np nd nn => ?_
  have s : Same H (upd (upd H dx (.own p)) p (.ins (cRow K) dx [])) := fun b o e => by
    rw [upd_ne (ne_of_none e np), upd_ne (ne_of_none e nd)]
    exact e
  refine ⟨p, dx, x, y, tx, o, rfl, upd_same, nx.same s, ly.same s, fun c ns l H' ex eo o2 nl hp hl sx => ⟨rfl, ?_⟩, fun no H' s' => h2 no _ (s.trans s')⟩
  have nl0 : H l = none := by
    cases eo : H l with
    | none => rfl
    | some o =>
      rw [s _ _ eo] at nl
      cases nl
  exact h1 c ns ex eo o2 p l H' np nl0 (fun b o e => sx b o (ne_of_none e np) (s _ _ e)) ⟨dx, hp, hl⟩
/-- Row(c, ns) that is well made -/
theorem mk_RowOk {X : Cx} {W : WX} {σ : L2.St} {H : Hp} {Q : VK} {k : Nat} (T : TX K mg) (C : Ctx P w K mg base k X W) (hk : 4 ≤ k) {c : Int} {ns : List Int} {a : Addr} (hs : SqL K H a (ns.map V.int)) (ty : TyX K H (.ref a) (.type "list")) (ok : okRow (.int c) ns = true)
    (q : ∀ p l H', H p = none → H l = none → Same H H' → RowL K H' p c ns l → Q (.ref p) H') : CV X (.ref (cRow K)) [.int c, .ref a] σ H Q :=
  new_Row T C hk NumK.int (o := some ns) ⟨a, rfl, hs, ty⟩ (fun c' ns' ec en _ p l H' np nl s r => by
    cases ec
    cases en
    exact q p l H' np nl s r) (fun no => by
    have no' : okRow (.int c) ns = false := no
    rw [ok] at no'
    cases no')
end

section
variable {P : Program} {w : World} {K : PySem.W.Frag} {mg : Str → Option Value} {base : Heap}
/-! ### what rows tell -/
def spRow1 (K : PySem.W.Frag) (r : Int → List Int → V) : Sp := fun vs H Q _ => ∃ p c ns, vs = [.ref p] ∧ RowAt K H p c ns ∧ ∀ H', Same H H' → Q (r c ns) H'
end
section
variable {P : Program} {w : World} {K : PySem.W.Frag} {mg : Str → Option Value} {base : Heap} {k : Nat} {X : Cx} {W : WX} {σ : L2.St} {H : Hp} {Q : VK} {p : Addr} {c : Int} {ns : List Int}
theorem RowAt.ty (T : TX K mg) (h : RowAt K H p c ns) : TyX K H (.ref p) (.ref (cRow K)) := by
  obtain ⟨dx, l, h, _⟩ := h
  exact (i_Row T).ty (c_Row T) h
theorem RowAt.prop (h : RowAt K H p c ns) : ∃ dx fs, H p = some (.ins (cRow K) dx fs) := let ⟨dx, l, h, _⟩ := h; ⟨dx, _, h⟩
/-- p.f by the property f -/
theorem row_prop (T : TX K mg) (C : Ctx P w K mg base k X W) (hk : 2 ≤ k) {f : Str} {r : Int → List Int → V} (pr : PropOf K (cRow K) f (He.ma K (cRow K) f) (pga K "Row" f)) (F : FnS P w K mg base (pga K "Row" f) 1 ["self"] (spRow1 K r)) (h : RowAt K H p c ns)
    (q : ∀ H', Same H H' → Q (r c ns) H') : O1 X (fun v => getAttr v f true) (.ref p) σ H Q := by
  obtain ⟨dx, l, hp, hl⟩ := h
  exact atr_prop C hp (c_Row T) pr F hk ⟨p, c, ns, rfl, ⟨dx, l, hp, hl⟩, q⟩
end

section
variable {P : Program} {w : World} {K : PySem.W.Frag} {mg : Str → Option Value} {base : Heap}
theorem ok_Row_first (T : TX K mg) : FnS P w K mg base (pga K "Row" "first") 1 ["self"] (spRow1 K fun c _ => .int c) := by
  refine mk_Row_first T (fun vs H Q E h => ?_) (fun X vs H Q E C h => ?_)
  · obtain ⟨p, c, ns, rfl, _⟩ := h
    rfl
  obtain ⟨p, c, ns, rfl, ⟨dx, l, hp, hl⟩, q⟩ := h
  unfold r_Row_first
  repeat walk_at "v"
  exact atr_fld C hp (c_Row T) (n_Row_colour T) (v := .int c) (by kernel_rfl) (q H (Same.refl _))
end

section
variable {P : Program} {w : World} {K : PySem.W.Frag} {mg : Str → Option Value} {base : Heap}
theorem ok_Row_runs (T : TX K mg) : FnS P w K mg base (pga K "Row" "runs") 1 ["self"] (spRow1 K fun _ ns => .int ns.length) := by
  refine mk_Row_runs T (fun vs H Q E h => ?_) (fun X vs H Q E C h => ?_)
  · obtain ⟨p, c, ns, rfl, _⟩ := h
    rfl
  obtain ⟨p, c, ns, rfl, ⟨dx, l, hp, hl⟩, q⟩ := h
  unfold r_Row_runs
  repeat walk_at "v"
  refine atr_fld C hp (c_Row T) (n_Row_sizes T) (v := .ref l) (by kernel_rfl) ?_
  repeat walk_at "v"
  refine len_l C (.of hl) ?_
  rw [List.length_map]
  exact q H (Same.refl _)
end

section
variable {P : Program} {w : World} {K : PySem.W.Frag} {mg : Str → Option Value} {base : Heap}
theorem ok_is_count (T : TX K mg) : FnS P w K mg base (He.ga K "is_count") 1 ["candidate"] (spIsCount K) := by
  refine mk_is_count T (fun vs H Q E h => ?_) (fun X vs H Q E C h => ?_)
  · obtain ⟨x, t, rfl, _⟩ := h
    rfl
  obtain ⟨x, t, rfl, nk, q⟩ := h
  unfold r_is_count
  repeat walk_at "v"
  have odd : numV x = false → isCnt x = false := fun h => by cases x <;> first | rfl | cases h
  cases hn : numV x with
  | false =>
    refine isi C (.ty _) nk.ty (nk.no hn) ?_
    repeat walk_at "v"
    rw [odd hn] at q
    exact q
  | true =>
    cases x with
    | int i =>
      obtain rfl := ty_int nk.ty
      refine isi C (.ty _) nk.ty (kit_ty (r := true) (by decide +kernel)) ?_
      repeat walk_at "v"
      refine isi C (.ty _) nk.ty (kit_ty (r := false) (by decide +kernel)) ?_
      repeat walk_at "v"
      exact q
    | bl b =>
      obtain rfl := ty_bl nk.ty
      refine isi C (.ty _) nk.ty (kit_ty (r := true) (by decide +kernel)) ?_
      repeat walk_at "v"
      refine isi C (.ty _) nk.ty (kit_ty (r := true) (by decide +kernel)) ?_
      repeat walk_at "v"
      exact q
    | _ => cases hn

end

section
variable {P : Program} {w : World} {K : PySem.W.Frag} {mg : Str → Option Value} {base : Heap}
def okFlip : V → V → Bool
  | .int i, .int j => decide (0 ≤ i) && (decide (0 ≤ j) && decide (i < j))
  | _, _ => false
theorem okFlip_l {x y : V} (h : isCnt x = false) : okFlip x y = false := by
  cases x <;> cases y <;> first
    | rfl
    | (simp only [isCnt, decide_eq_false_iff_not] at h
       simp only [okFlip, Bool.and_eq_false_iff, decide_eq_false_iff_not]
       omega)
theorem okFlip_r {x y : V} (h : isCnt y = false) : okFlip x y = false := by
  cases x <;> cases y <;> first
    | rfl
    | (simp only [isCnt, decide_eq_false_iff_not] at h
       simp only [okFlip, Bool.and_eq_false_iff, decide_eq_false_iff_not]
       omega)
def flF (i j : Int) : List (Str × V) := [("begin", .int i), ("finish", .int j)]
abbrev cFlip (K : PySem.W.Frag) : Addr := He.ga K "Flip"
def FlipAt (K : PySem.W.Frag) (H : Hp) (p : Addr) (i j : Int) : Prop := ∃ dx, H p = some (.ins (cFlip K) dx (flF i j))
theorem FlipAt.same {H H' : Hp} {p : Addr} {i j : Int} (h : FlipAt K H p i j) (s : Same H H') : FlipAt K H' p i j := let ⟨dx, h⟩ := h; ⟨dx, s _ _ h⟩
def spFlipInit (K : PySem.W.Frag) : Sp := fun vs H Q E => ∃ p dx x y tx ty, vs = [.ref p, x, y] ∧ H p = some (.ins (cFlip K) dx []) ∧ NumK K H x tx ∧ NumK K H y ty ∧
  (∀ i j, x = .int i → y = .int j → okFlip x y = true → Q .non (upd H p (.ins (cFlip K) dx (flF i j)))) ∧ (okFlip x y = false → E (.ref (He.ga K "InvalidFlip")) none H)
theorem ok_Flip_init (T : TX K mg) : FnS P w K mg base (He.ma K (cFlip K) "__init__") 2 ["self", "start", "end"] (spFlipInit K) := by
  refine mk_Flip_init T (fun vs H Q E h => ?_) (fun X vs H Q E C h => ?_)
  · obtain ⟨p, dx, x, y, tx, ty, rfl, _⟩ := h
    rfl
  obtain ⟨p, dx, x, y, tx, ty, rfl, hp, nx, ny, h1, h2⟩ := h
  unfold r_Flip_init
  have bad : okFlip x y = false → MkV X (.ref (He.ga K "InvalidFlip")) [.str "two places are required"] (L2.start N_Flip_init [.ref p, x, y]) H fun cls d H' => E cls d H' := fun hb =>
    mk_own C PySem.F.excBase_ValueError (e_InvalidFlip T).i (e_InvalidFlip T).s (e_InvalidFlip T).t (h2 hb)
  repeat walk_at "v"
  refine cv_fn C (ok_is_count T) (by omega) ⟨x, tx, rfl, nx, ?_⟩
  repeat walk_at "v"
  cases cx : isCnt x with
  | false =>
    repeat walk_at "v"
    exact bad (okFlip_l cx)
  | true =>
    repeat walk_at "v"
    refine cv_fn C (ok_is_count T) (by omega) ⟨y, ty, rfl, ny, ?_⟩
    repeat walk_at "v"
    cases cy : isCnt y with
    | false =>
      repeat walk_at "v"
      exact bad (okFlip_r cy)
    | true =>
      repeat walk_at "v"
      obtain ⟨i, rfl, hi⟩ : ∃ i, x = .int i ∧ 0 ≤ i := by cases x <;> simp_all [isCnt]
      obtain ⟨j, rfl, hj⟩ : ∃ i, y = .int i ∧ 0 ≤ i := by cases y <;> simp_all [isCnt]
      repeat walk_at "v"
      refine s_ite (fun c => ?_) (fun c => ?_)
      · repeat walk_at "v"
        refine bad ?_
        simp only [okFlip, Bool.and_eq_false_iff, decide_eq_false_iff_not]
        omega
      · repeat walk_at "v"
        refine set_fld C hp (c_Flip T) (n_Flip_begin T) (by decide) ?_
        repeat walk_at "v"
        refine set_fld C upd_same (c_Flip T) (n_Flip_finish T) (by show 1 < 1000; decide) ?_
        rw [upd_upd]
        refine h1 i j rfl rfl ?_
        simp only [okFlip, Bool.and_eq_true, decide_eq_true_eq]
        omega
end
section
variable {P : Program} {w : World} {K : PySem.W.Frag} {mg : Str → Option Value} {base : Heap} {k : Nat} {X : Cx} {W : WX} {σ : L2.St} {H : Hp} {Q : VK}
/-- Flip(x, y) -/
theorem new_Flip (T : TX K mg) (C : Ctx P w K mg base k X W) (hk : 3 ≤ k) {x y : V} {tx ty : Value} (nx : NumK K H x tx) (ny : NumK K H y ty)
    (h1 : ∀ i j, x = .int i → y = .int j → okFlip x y = true → ∀ p H', H p = none → Same H H' → FlipAt K H' p i j → Q (.ref p) H') (h2 : okFlip x y = false → ∀ H', Same H H' → W (.ref (He.ga K "InvalidFlip")) none σ H') :
    CV X (.ref (cFlip K)) [x, y] σ H Q := by
  refine cv_new C (k_Flip T) (ok_Flip_init T) hk fun p dx np nd nn => ?_
  have s : Same H (upd (upd H dx (.own p)) p (.ins (cFlip K) dx [])) := fun b o e => by
    rw [upd_ne (ne_of_none e np), upd_ne (ne_of_none e nd)]
    exact e
  refine ⟨p, dx, x, y, tx, ty, rfl, upd_same, nx.same s, ny.same s, fun i j ex ey ok => ⟨rfl, ?_⟩, fun no => h2 no _ s⟩
  refine h1 i j ex ey ok p _ np (fun b o e => ?_) ⟨dx, upd_same⟩
  rw [upd_ne (ne_of_none e np)]
  exact s _ _ e
theorem FlipAt.ty (T : TX K mg) {p : Addr} {i j : Int} (h : FlipAt K H p i j) : TyX K H (.ref p) (.ref (cFlip K)) := by
  obtain ⟨dx, h⟩ := h
  exact (i_Flip T).ty (c_Flip T) h
end

section
variable {P : Program} {w : World} {K : PySem.W.Frag} {mg : Str → Option Value} {base : Heap}
def spFlipGet (K : PySem.W.Frag) (r : Int → Int → Int) : Sp := fun vs H Q _ => ∃ p i j, vs = [.ref p] ∧ FlipAt K H p i j ∧ Q (.int (r i j)) H
theorem ok_Flip_start (T : TX K mg) : FnS P w K mg base (pga K "Flip" "start") 1 ["self"] (spFlipGet K fun i _ => i) := by
  refine mk_Flip_start T (fun vs H Q E h => ?_) (fun X vs H Q E C h => ?_)
  · obtain ⟨p, i, j, rfl, _⟩ := h
    rfl
  obtain ⟨p, i, j, rfl, ⟨dx, hp⟩, q⟩ := h
  unfold r_Flip_start
  repeat walk_at "v"
  exact atr_fld C hp (c_Flip T) (n_Flip_begin T) (by kernel_rfl) q
theorem ok_Flip_end (T : TX K mg) : FnS P w K mg base (pga K "Flip" "end") 1 ["self"] (spFlipGet K fun _ j => j) := by
  refine mk_Flip_end T (fun vs H Q E h => ?_) (fun X vs H Q E C h => ?_)
  · obtain ⟨p, i, j, rfl, _⟩ := h
    rfl
  obtain ⟨p, i, j, rfl, ⟨dx, hp⟩, q⟩ := h
  unfold r_Flip_end
  repeat walk_at "v"
  exact atr_fld C hp (c_Flip T) (n_Flip_finish T) (by kernel_rfl) q
end

section
variable {P : Program} {w : World} {K : PySem.W.Frag} {mg : Str → Option Value} {base : Heap}
def strV : V → Bool
  | .str _ => true
  | _ => false
/-- whether a value is a text can be told -/
structure StrK (K : PySem.W.Frag) (H : Hp) (x : V) (t : Value) : Prop where
  ty : TyX K H x t
  no : strV x = false → PySem.W.kitOne K t (.type "str") = some false
theorem StrK.same {H H' : Hp} {x : V} {t : Value} (n : StrK K H x t) (s : Same H H') : StrK K H' x t := ⟨Same_ty s n.ty, n.no⟩
theorem StrK.str {H : Hp} {x : Str} : StrK K H (.str x) (.type "str") := ⟨.base (.str x), fun h => by cases h⟩
theorem ty_str {H : Hp} {x : Str} {t : Value} (h : TyX K H (.str x) t) : t = .type "str" := by
  cases h with
  | base h => cases h; rfl
end

section
variable {P : Program} {w : World} {K : PySem.W.Frag} {mg : Str → Option Value} {base : Heap}
/-! ### goals -/
def isGoal : V → Bool
  | .str z => inV (.str z) [.str "grouped", .str "sorted"]
  | _ => false
def spCheckGoal (K : PySem.W.Frag) : Sp := fun vs H Q E => ∃ x t, vs = [x] ∧ StrK K H x t ∧ (isGoal x = true → ∀ H', Same H H' → Q .non H') ∧ (isGoal x = false → ∀ H', Same H H' → E (.ref (He.ga K "InvalidGoal")) none H')
theorem ok_check_goal (T : TX K mg) : FnS P w K mg base (He.ga K "check_goal") 2 ["goal"] (spCheckGoal K) := by
  refine mk_check_goal T (fun vs H Q E h => ?_) (fun X vs H Q E C h => ?_)
  · obtain ⟨x, t, rfl, _⟩ := h
    rfl
  obtain ⟨x, t, rfl, sk, h1, h2⟩ := h
  unfold r_check_goal
  have bad : ∀ (σ' : L2.St) (H' : Hp) (z : Str), isGoal x = false → Same H H' → MkV X (.ref (He.ga K "InvalidGoal")) [.str z] σ' H' fun cls d H' => E cls d H' := fun σ' H' z hb s =>
    mk_own C PySem.F.excBase_ValueError (e_InvalidGoal T).i (e_InvalidGoal T).s (e_InvalidGoal T).t (h2 hb H' s)
  repeat walk_at "v"
  cases hs : strV x with
  | false =>
    refine isi C (.ty _) sk.ty (sk.no hs) ?_
    repeat walk_at "v"
    exact bad _ _ _ (by cases x <;> first | rfl | cases hs) (Same.refl _)
  | true =>
    obtain ⟨z, rfl⟩ : ∃ z, x = .str z := by cases x <;> first | exact ⟨_, rfl⟩ | cases hs
    obtain rfl := ty_str sk.ty
    refine isi C (.ty _) sk.ty (b := true) (kit_ty (by decide +kernel)) ?_
    repeat walk_at "v"
    refine notin_l C (l_GOALS T _) rfl rfl ?_
    repeat walk_at "v"
    cases hg : isGoal (.str z) with
    | false =>
      rw [show inV (.str z) (List.map V.str [("grouped" : Str), ("sorted" : Str)]) = false from hg]
      repeat walk_at "v"
      exact bad _ _ _ hg (Same.refl _)
    | true =>
      rw [show inV (.str z) (List.map V.str [("grouped" : Str), ("sorted" : Str)]) = true from hg]
      repeat walk_at "v"
      exact h1 hg _ (Same.refl _)
end

section
variable {P : Program} {w : World} {K : PySem.W.Frag} {mg : Str → Option Value} {base : Heap}
/-! ### games, words -/
def isGame : V → Bool
  | .str z => inV (.str z) [.str "front", .str "ends", .str "parts"]
  | _ => false
theorem isGame_c {x : V} (h : isGame x = true) : x = .str "front" ∨ x = .str "ends" ∨ x = .str "parts" := by
  cases x <;> first | cases h | (simp [isGame, inV, eqV] at h; rcases h with h | h | h <;> simp [h])
theorem isGoal_c {x : V} (h : isGoal x = true) : x = .str "grouped" ∨ x = .str "sorted" := by
  cases x <;> first | cases h | (simp [isGoal, inV, eqV] at h; rcases h with h | h <;> simp [h])
def spCheckGame (K : PySem.W.Frag) : Sp := fun vs H Q E => ∃ x t, vs = [x] ∧ StrK K H x t ∧ (isGame x = true → Q .non H) ∧ (isGame x = false → E (.ref (He.ga K "InvalidGame")) none H)
theorem ok_check_game (T : TX K mg) : FnS P w K mg base (He.ga K "check_game") 2 ["game"] (spCheckGame K) := by
  refine mk_check_game T (fun vs H Q E h => ?_) (fun X vs H Q E C h => ?_)
  · obtain ⟨x, t, rfl, _⟩ := h
    rfl
  obtain ⟨x, t, rfl, sk, h1, h2⟩ := h
  unfold r_check_game
  have bad : ∀ (σ' : L2.St) (z : Str), isGame x = false → MkV X (.ref (He.ga K "InvalidGame")) [.str z] σ' H fun cls d H' => E cls d H' := fun σ' z hb =>
    mk_own C PySem.F.excBase_ValueError (e_InvalidGame T).i (e_InvalidGame T).s (e_InvalidGame T).t (h2 hb)
  repeat walk_at "v"
  cases hs : strV x with
  | false =>
    refine isi C (.ty _) sk.ty (sk.no hs) ?_
    repeat walk_at "v"
    exact bad _ _ (by cases x <;> first | rfl | cases hs)
  | true =>
    obtain ⟨z, rfl⟩ : ∃ z, x = .str z := by cases x <;> first | exact ⟨_, rfl⟩ | cases hs
    obtain rfl := ty_str sk.ty
    refine isi C (.ty _) sk.ty (b := true) (kit_ty (by decide +kernel)) ?_
    repeat walk_at "v"
    refine notin_l C (l_GAMES T _) rfl rfl ?_
    repeat walk_at "v"
    cases hg : isGame (.str z) with
    | false =>
      rw [show inV (.str z) (List.map V.str [("front" : Str), ("ends" : Str), ("parts" : Str)]) = false from hg]
      repeat walk_at "v"
      exact bad _ _ hg
    | true =>
      rw [show inV (.str z) (List.map V.str [("front" : Str), ("ends" : Str), ("parts" : Str)]) = true from hg]
      repeat walk_at "v"
      exact h1 hg
def spCheckWords (K : PySem.W.Frag) : Sp := fun vs H Q E => ∃ x t y u, vs = [x, y] ∧ StrK K H x t ∧ StrK K H y u ∧ (isGame x = true → isGoal y = true → ∀ H', Same H H' → Q .non H') ∧ (isGame x = false → ∀ H', Same H H' → E (.ref (He.ga K "InvalidGame")) none H') ∧
  (isGame x = true → isGoal y = false → ∀ H', Same H H' → E (.ref (He.ga K "InvalidGoal")) none H')
theorem ok_check_words (T : TX K mg) : FnS P w K mg base (He.ga K "check_words") 3 ["game", "goal"] (spCheckWords K) := by
  refine mk_check_words T (fun vs H Q E h => ?_) (fun X vs H Q E C h => ?_)
  · obtain ⟨x, t, y, u, rfl, _⟩ := h
    rfl
  obtain ⟨x, t, y, u, rfl, sx, sy, q, q1, q2⟩ := h
  unfold r_check_words
  repeat walk_at "v"
  refine cv_fn C (ok_check_game T) (by omega) ⟨x, t, rfl, sx, fun g => ?_, fun g => q1 g _ (Same.refl _)⟩
  repeat walk_at "v"
  refine cv_fn C (ok_check_goal T) (by omega) ⟨y, u, rfl, sy, fun g2 H1 s1 => ?_, fun g2 H1 s1 => q2 g g2 _ s1⟩
  repeat walk_at "v"
  exact q g g2 _ s1
end

section
variable {P : Program} {w : World} {K : PySem.W.Frag} {mg : Str → Option Value} {base : Heap}
/-! ### costs -/
def b2n (b : Bool) : Int := if b = true then 1 else 0
def sortC (r f : Int) (g : V) : Int :=
  if g = .str "front" then r - 2 + b2n (decide ((f + r - 1) % 2 = 0)) else if g = .str "ends" then r - 2 + b2n (decide (r = 2) && decide (f = 1)) else (r - 2 + f + b2n (decide ((f + r - 1) % 2 = 0))) / 2
def costC (r f : Int) (g o : V) : Int := if r < 2 then 0 else if o = .str "sorted" then sortC r f g else if g = .str "parts" then (r - 1) / 2 else r - 2
def spSorting : Sp := fun vs H Q _ => ∃ (r f : Int) (g : Str), vs = [.int r, .int f, .str g] ∧ Q (.int (sortC r f (.str g))) H
theorem ok_sorting_cost (T : TX K mg) : FnS P w K mg base (He.ga K "sorting_cost") 1 ["runs", "first", "game"] spSorting := by
  refine mk_sorting_cost T (fun vs H Q E h => ?_) (fun X vs H Q E C h => ?_)
  · obtain ⟨r, f, g, rfl, _⟩ := h
    rfl
  obtain ⟨r, f, g, rfl, q⟩ := h
  unfold r_sorting_cost
  unfold sortC at q
  repeat walk_at "v"
  refine mod_ii (by decide) ?_
  repeat walk_at "v"
  refine eq_sc rfl ?_
  repeat walk_at "v"
  refine s_ite (fun a => ?_) (fun a => ?_)
  · rw [if_pos a] at q
    repeat walk_at "v"
    refine int_b ?_
    repeat walk_at "v"
    exact q
  rw [if_neg a] at q
  repeat walk_at "v"
  refine eq_sc rfl ?_
  repeat walk_at "v"
  refine s_ite (fun b => ?_) (fun b => ?_)
  · rw [if_pos b] at q
    repeat walk_at "v"
    refine s_ite (fun c => ?_) (fun c => ?_)
    · rw [decide_eq_true c, Bool.true_and] at q
      repeat walk_at "v"
      refine int_b ?_
      repeat walk_at "v"
      exact q
    · rw [decide_eq_false c, Bool.false_and] at q
      rw [decide_eq_false c]
      repeat walk_at "v"
      refine int_b ?_
      repeat walk_at "v"
      exact q
  · rw [if_neg b] at q
    repeat walk_at "v"
    refine int_b ?_
    repeat walk_at "v"
    exact div_ii (by decide) (small_div (by decide)) q
def spPlainCost : Sp := fun vs H Q _ => ∃ (r f : Int) (g o : Str), vs = [.int r, .int f, .str g, .str o] ∧ Q (.int (costC r f (.str g) (.str o))) H
theorem ok_plain_cost (T : TX K mg) : FnS P w K mg base (He.ga K "plain_cost") 2 ["runs", "first", "game", "goal"] spPlainCost := by
  refine mk_plain_cost T (fun vs H Q E h => ?_) (fun X vs H Q E C h => ?_)
  · obtain ⟨r, f, g, o, rfl, _⟩ := h
    rfl
  obtain ⟨r, f, g, o, rfl, q⟩ := h
  unfold r_plain_cost
  unfold costC at q
  repeat walk_at "v"
  refine s_ite (fun a => ?_) (fun a => ?_)
  · rw [if_pos a] at q
    repeat walk_at "v"
    exact q
  rw [if_neg a] at q
  repeat walk_at "v"
  refine eq_sc rfl ?_
  repeat walk_at "v"
  refine s_ite (fun b => ?_) (fun b => ?_)
  · rw [if_pos b] at q
    repeat walk_at "v"
    exact cv_fn C (ok_sorting_cost T) (by omega) ⟨r, f, g, rfl, q⟩
  rw [if_neg b] at q
  repeat walk_at "v"
  refine s_ifx ?_
  repeat walk_at "v"
  refine eq_sc rfl ?_
  repeat walk_at "v"
  refine s_ite (fun c => ?_) (fun c => ?_)
  · rw [if_pos c] at q
    repeat walk_at "v"
    exact div_ii (by decide) (small_div (by decide)) q
  · rw [if_neg c] at q
    repeat walk_at "v"
    exact q
end

section
variable {P : Program} {w : World} {K : PySem.W.Frag} {mg : Str → Option Value} {base : Heap}
theorem okRow_nf {c : Int} {ns : List Int} (x : Nf c ns) (hl : ns.length ≤ 2000) (hs : ns.sum ≤ M30) : okRow (.int c) ns = true := by
  have hM : M30 = 1000000000000000000000000000000 := rfl
  unfold okRow
  simp only [Bool.and_eq_true, decide_eq_true_eq, Bool.not_eq_true', Bool.and_eq_false_iff, decide_eq_false_iff_not, List.all_eq_true]
  refine ⟨isNum01' x.hc, hl, fun n hn => ⟨x.hp n hn, ?_⟩, hs, ?_⟩
  · have := (le_sum x.hp).2 n hn
    omega
  · by_cases e : ns = []
    · rw [x.he e]
      exact .inr (by decide)
    · exact .inl e
end

section
variable {P : Program} {w : World} {K : PySem.W.Frag} {mg : Str → Option Value} {base : Heap}
theorem flip_prop {X : Cx} {W : WX} {σ : L2.St} {H : Hp} {Q : VK} {k : Nat} {f : Addr} {i j : Int} {a : Str} {r : Int → Int → Int} (T : TX K mg) (C : Ctx P w K mg base k X W) (hk : 2 ≤ k) (pr : PropOf K (cFlip K) a (He.ma K (cFlip K) a) (pga K "Flip" a)) (F : FnS P w K mg base (pga K "Flip" a) 1 ["self"] (spFlipGet K r)) (h : FlipAt K H f i j) (q : Q (.int (r i j)) H) :
    O1 X (fun v => getAttr v a true) (.ref f) σ H Q := by
  obtain ⟨dx, hf⟩ := h
  exact atr_prop C hf (c_Flip T) pr F hk ⟨f, i, j, rfl, ⟨dx, hf⟩, q⟩
end

section
/-! ### plain: how many flips of each kind -/
def nrL : List Int → Nat
  | [] => 0
  | x :: r => 1 + cf x r
def bd (x y : Int) : Nat := if y = x then 0 else 1
theorem cf_cons (p x : Int) (r : List Int) : cf p (x :: r) = bd p x + cf x r := rfl
theorem la_cons (p x : Int) (r : List Int) : la p (x :: r) = la x r := rfl
def oA (y : Int) : List Int → Nat
  | [] => 0
  | a :: s => bd (la a s) y
def oZ (y : Int) : List Int → Nat
  | [] => 0
  | z :: _ => bd y z
theorem turn_amz {A M Z : List Int} {m : Int} {r : List Int} (e : M = m :: r) : nrL (A ++ (M.reverse ++ Z)) + oA m A + oZ (la m r) Z = nrL (A ++ (M ++ Z)) + oA (la m r) A + oZ m Z := by
  subst e
  obtain ⟨r', e1, e2, e3⟩ := rev_cf r m
  rw [e1]
  have q1 : cf m (r ++ Z) = cf m r + cf (la m r) Z := cf_app _ _ _
  have q3 : cf (la m r) (r' ++ Z) = cf m r + cf m Z := by rw [cf_app, e2, e3]
  have z1 : cf (la m r) Z + oZ m Z = cf m Z + oZ (la m r) Z := by
    cases Z with
    | nil => rfl
    | cons z q =>
      rw [cf_cons, cf_cons]
      show bd (la m r) z + cf z q + bd m z = bd m z + cf z q + bd (la m r) z
      omega
  cases A with
  | nil =>
    show (1 + cf (la m r) (r' ++ Z)) + 0 + oZ (la m r) Z = (1 + cf m (r ++ Z)) + 0 + oZ m Z
    omega
  | cons a s =>
    show (1 + cf a (s ++ (la m r :: (r' ++ Z)))) + bd (la a s) m + oZ (la m r) Z = (1 + cf a (s ++ (m :: (r ++ Z)))) + bd (la a s) (la m r) + oZ m Z
    rw [cf_app, cf_app, cf_cons, cf_cons]
    omega
theorem la_getD : ∀ (r : List Int) (x : Int), la x r = (x :: r).getD r.length 0
  | [], x => rfl
  | y :: r, x => by
    rw [la_cons, la_getD r y]
    rfl
theorem getD_take {L : List Int} {i k : Nat} (h : k < i) : (L.take i).getD k 0 = L.getD k 0 := by
  rw [List.getD_eq_getElem?_getD, List.getD_eq_getElem?_getD, List.getElem?_take, if_pos h]
theorem getD_drop {L : List Int} {i k : Nat} : (L.drop i).getD k 0 = L.getD (i + k) 0 := by
  rw [List.getD_eq_getElem?_getD, List.getD_eq_getElem?_getD, List.getElem?_drop]
theorem oA_get {L : List Int} {i : Nat} (h : i ≤ L.length) (y : Int) : oA y (L.take i) = if 0 < i then bd (L.getD (i - 1) 0) y else 0 := by
  cases e : L.take i with
  | nil =>
    have := congrArg List.length e
    rw [List.length_take] at this
    rw [if_neg (by have h2 : min i L.length = 0 := this; omega)]
    rfl
  | cons a s =>
    have := congrArg List.length e
    rw [List.length_take] at this
    have h2 : min i L.length = s.length + 1 := this
    rw [if_pos (by omega)]
    show bd (la a s) y = _
    rw [la_getD, ← e, getD_take (by omega), show s.length = i - 1 from by omega]
theorem oZ_get {L : List Int} {j : Nat} (y : Int) : oZ y (L.drop j) = if j < L.length then bd y (L.getD j 0) else 0 := by
  cases e : L.drop j with
  | nil =>
    rw [if_neg (by have := List.drop_eq_nil_iff.mp e; omega)]
    rfl
  | cons z q =>
    have := congrArg List.length e
    rw [List.length_drop] at this
    have h2 : L.length - j = q.length + 1 := this
    rw [if_pos (by omega)]
    have h3 : (L.drop j).getD 0 0 = z := by rw [e]; rfl
    rw [getD_drop, Nat.add_zero] at h3
    rw [h3]
    rfl
def turnL (L : List Int) (i j : Nat) : List Int := L.take i ++ (((L.take j).drop i).reverse ++ L.drop j)
theorem chg_ix {L : List Int} {i j : Nat} (h : i < j) (hj : j ≤ L.length) :
    nrL (turnL L i j) + (if 0 < i then bd (L.getD (i - 1) 0) (L.getD i 0) else 0) + (if j < L.length then bd (L.getD (j - 1) 0) (L.getD j 0) else 0) = nrL L + (if 0 < i then bd (L.getD (i - 1) 0) (L.getD (j - 1) 0) else 0) + (if j < L.length then bd (L.getD i 0) (L.getD j 0) else 0) := by
  obtain ⟨m, r, e⟩ : ∃ m r, (L.take j).drop i = m :: r := by
    cases e : (L.take j).drop i with
    | nil =>
      have := congrArg List.length e
      rw [List.length_drop, List.length_take] at this
      have h2 : min j L.length - i = 0 := this
      omega
    | cons m r => exact ⟨m, r, rfl⟩
  have hm : m = L.getD i 0 := by
    have : ((L.take j).drop i).getD 0 0 = m := by rw [e]; rfl
    rw [getD_drop, getD_take (by omega)] at this
    exact this.symm
  have hl : r.length + 1 = j - i := by
    have := congrArg List.length e
    rw [List.length_drop, List.length_take] at this
    have h2 : min j L.length - i = r.length + 1 := this
    omega
  have hr : la m r = L.getD (j - 1) 0 := by
    rw [la_getD, ← e, getD_drop, getD_take (by omega), show i + r.length = j - 1 from by omega]
  have t := turn_amz (A := L.take i) (Z := L.drop j) e
  have e0 : L.take i ++ ((L.take j).drop i ++ L.drop j) = L := by
    have e1 : L.take j = L.take i ++ (L.take j).drop i := by
      have := List.take_append_drop i (L.take j)
      rw [List.take_take, show min i j = i from by omega] at this
      exact this.symm
    rw [← List.append_assoc, ← e1, List.take_append_drop]
  rw [e0, oA_get (by omega), oA_get (by omega), oZ_get, oZ_get, hr, hm] at t
  exact t
end

section
theorem len_flip {c i j : Int} {ns : List Int} (x : Nf c ns) (h0 : 0 ≤ i) (h1 : i ≤ j) (h2 : j ≤ ns.sum) : (flipR c ns i j).2.length = nrL (turnL (ex c ns) i.toNat j.toNat) := by
  obtain ⟨n1, e1, _⟩ := flip_ex x h0 h1 h2
  unfold turnL
  rw [← e1]
  by_cases h : (flipR c ns i j).2 = []
  · rw [h]
    rfl
  · obtain ⟨R, r1, r2, _⟩ := ex_cf _ (flipR c ns i j).1 n1.hp h
    rw [r1]
    exact r2
end

section
/-! ### plain: costs, kinds, best kinds -/
def cN (r f : Int) (g : Nat) (s : Bool) : Int :=
  if r < 2 then 0 else if s = true then (if g = 0 then r - 2 + (if (f + r - 1) % 2 = 0 then 1 else 0) else if g = 1 then r - 2 + (if r = 2 ∧ f = 1 then 1 else 0) else (r - 2 + f + (if (f + r - 1) % 2 = 0 then 1 else 0)) / 2) else if g = 2 then (r - 1) / 2 else r - 2
def numK (r : Int) : Nat → Int
  | 0 => if 2 ≤ r then (r - 2) * (r - 2) / 4 else 0
  | 1 => if r = 0 then 0 else (r - 1) / 2
  | 2 => if r = 0 then 0 else (r - 1) / 2
  | _ => if r = 0 then 0 else 1
def stK (r f : Int) : Nat → Int × Int
  | 0 => (r - 2, f)
  | 1 => (r - 1, 1 - f)
  | 2 => (r - 1, f)
  | _ => (r, (f + r - 1) % 2)
def kindsG : Nat → List Nat
  | 0 => [1, 3]
  | 1 => [1, 2, 3]
  | _ => [0, 1, 2, 3]
def isBK (r f : Int) (g : Nat) (s : Bool) (k : Nat) : Bool := decide (0 < numK r k) && decide (cN (stK r f k).1 (stK r f k).2 g s < cN r f g s)
def bestK (r f : Int) (g : Nat) (s : Bool) : List Nat := (kindsG g).filter (isBK r f g s)
theorem num0 {r : Int} : 0 < numK r 0 ↔ 4 ≤ r := by
  show 0 < (if 2 ≤ r then (r - 2) * (r - 2) / 4 else 0) ↔ _
  by_cases h : 2 ≤ r
  · rw [if_pos h]
    constructor
    · intro q
      by_cases a : 4 ≤ r
      · exact a
      · exfalso
        have : r = 2 ∨ r = 3 := by omega
        rcases this with rfl | rfl <;> revert q <;> decide
    · intro q
      have : (2 : Int) * 2 ≤ (r - 2) * (r - 2) := Int.mul_le_mul (by omega) (by omega) (by decide) (by omega)
      omega
  · rw [if_neg h]
    omega
theorem num1 {r : Int} (h : 0 ≤ r) : 0 < numK r 1 ↔ 3 ≤ r := by
  show 0 < (if r = 0 then 0 else (r - 1) / 2) ↔ _
  split <;> omega
theorem num2 {r : Int} (h : 0 ≤ r) : 0 < numK r 2 ↔ 3 ≤ r := num1 h
theorem num3 {r : Int} (h : 0 ≤ r) : 0 < numK r 3 ↔ 1 ≤ r := by
  show 0 < (if r = 0 then 0 else 1) ↔ _
  split <;> omega
/-- the kind's number -/
def kindN (ch i j n : Int) : Option Nat :=
  if i = 0 ∧ j = n then some 3 else if 0 < i ∧ j < n then (if ch = -2 then some 0 else none) else if ch ≠ -1 then none else if i = 0 then some 1 else some 2
/-- how a flip may change the runs and the first colour -/
structure Turns (r r' c c' i j n : Int) : Prop where
  b : c = 0 ∨ c = 1
  b' : c' = 0 ∨ c' = 1
  p : 1 ≤ r
  p' : 1 ≤ r'
  two : 2 ≤ r → 2 ≤ r'
  i0 : 0 ≤ i
  ij : i < j
  jn : j ≤ n
  w : i = 0 → j = n → r' = r ∧ c' = (c + r - 1) % 2
  m : 0 < i → j < n → (r' = r ∨ r' = r + 2 ∨ r' + 2 = r) ∧ c' = c
  l : i = 0 → j < n → (r' = r ∨ r' = r + 1 ∨ r' + 1 = r) ∧ (c' = c ↔ r' = r)
  z : 0 < i → j = n → (r' = r ∨ r' = r + 1 ∨ r' + 1 = r) ∧ c' = c
def okG (g : Nat) (i j n : Int) : Prop := g = 2 ∨ i = 0 ∨ (g = 1 ∧ j = n)
theorem cN_le {r r' c c' i j n : Int} {g : Nat} {s : Bool} (t : Turns r r' c c' i j n) (hg : g < 3) (ok : okG g i j n) : cN r c g s - cN r' c' g s ≤ 1 ∧ cN r' c' g s - cN r c g s ≤ 1 := by
  obtain ⟨b, b', p, p', two, i0, ij, jn, w, m, l, z⟩ := t
  unfold okG at ok
  have cs : (i = 0 ∧ j = n) ∨ (0 < i ∧ j < n) ∨ (i = 0 ∧ j < n) ∨ (0 < i ∧ j = n) := by omega
  have hg' : g = 0 ∨ g = 1 ∨ g = 2 := by omega
  unfold cN
  rcases cs with ⟨a1, a2⟩ | ⟨a1, a2⟩ | ⟨a1, a2⟩ | ⟨a1, a2⟩
  · obtain ⟨e1, e2⟩ := w a1 a2
    clear w m l z
    cases s <;> rcases hg' with rfl | rfl | rfl <;> simp <;> omega
  · obtain ⟨e1, e2⟩ := m a1 a2
    clear w m l z
    have : g = 2 := by omega
    subst this
    cases s <;> simp <;> omega
  · obtain ⟨e1, e2⟩ := l a1 a2
    clear w m l z
    cases s <;> rcases hg' with rfl | rfl | rfl <;> simp <;> omega
  · obtain ⟨e1, e2⟩ := z a1 a2
    clear w m l z
    have : g = 1 ∨ g = 2 := by omega
    cases s <;> rcases this with rfl | rfl <;> simp <;> omega
theorem mem_bestK {r f : Int} {g : Nat} {s : Bool} {k : Nat} : k ∈ bestK r f g s ↔ k ∈ kindsG g ∧ 0 < numK r k ∧ cN (stK r f k).1 (stK r f k).2 g s < cN r f g s := by
  unfold bestK
  rw [List.mem_filter]
  unfold isBK
  simp
/-- a flip is of a best kind exactly if the cost falls -/
theorem best_iff {r r' c c' i j n : Int} {g : Nat} {s : Bool} (t : Turns r r' c c' i j n) (hg : g < 3) (ok : okG g i j n) : (∃ k, kindN (r' - r) i j n = some k ∧ k ∈ bestK r c g s) ↔ cN r' c' g s < cN r c g s := by
  obtain ⟨b, b', p, p', two, i0, ij, jn, w, m, l, z⟩ := t
  unfold okG at ok
  have cs : (i = 0 ∧ j = n) ∨ (0 < i ∧ j < n) ∨ (i = 0 ∧ j < n) ∨ (0 < i ∧ j = n) := by omega
  have hg' : g = 0 ∨ g = 1 ∨ g = 2 := by omega
  unfold kindN
  rcases cs with ⟨a1, a2⟩ | ⟨a1, a2⟩ | ⟨a1, a2⟩ | ⟨a1, a2⟩
  · rw [if_pos ⟨a1, a2⟩]
    obtain ⟨rfl, rfl⟩ := w a1 a2
    have key : (∃ k, some 3 = some k ∧ k ∈ bestK r' c g s) ↔ 3 ∈ bestK r' c g s := ⟨fun ⟨k, e, h⟩ => by cases e; exact h, fun h => ⟨_, rfl, h⟩⟩
    rw [key, mem_bestK, num3 (by omega)]
    have k3 : (3 : Nat) ∈ kindsG g := by rcases hg' with rfl | rfl | rfl <;> decide
    exact ⟨fun h => h.2.2, fun h => ⟨k3, p, h⟩⟩
  · rw [if_neg (by omega), if_pos ⟨a1, a2⟩]
    obtain ⟨e1, e2⟩ := m a1 a2
    have hg2 : g = 2 := by omega
    subst hg2
    subst e2
    by_cases e : r' - r = -2
    · rw [if_pos e]
      have key : (∃ k, some 0 = some k ∧ k ∈ bestK r c' 2 s) ↔ 0 ∈ bestK r c' 2 s := ⟨fun ⟨k, e, h⟩ => by cases e; exact h, fun h => ⟨_, rfl, h⟩⟩
      rw [key, mem_bestK, num0]
      have er : r' = r - 2 := by omega
      subst er
      refine ⟨fun h => h.2.2, fun h => ⟨by decide, by omega, h⟩⟩
    · rw [if_neg e]
      constructor
      · rintro ⟨k, q, _⟩
        cases q
      · intro q
        exfalso
        clear w m l z
        revert q
        unfold cN
        cases s <;> simp <;> omega
  · rw [if_neg (by omega), if_neg (by omega)]
    obtain ⟨e1, e2⟩ := l a1 a2
    by_cases e : r' - r = -1
    · rw [if_neg (by omega), if_pos a1]
      have key : (∃ k, some 1 = some k ∧ k ∈ bestK r c g s) ↔ 1 ∈ bestK r c g s := ⟨fun ⟨k, e, h⟩ => by cases e; exact h, fun h => ⟨_, rfl, h⟩⟩
      rw [key, mem_bestK, num1 (by omega)]
      have er : r' = r - 1 := by omega
      have ec : c' = 1 - c := by omega
      subst er ec
      have k1 : (1 : Nat) ∈ kindsG g := by rcases hg' with rfl | rfl | rfl <;> decide
      exact ⟨fun h => h.2.2, fun h => ⟨k1, by omega, h⟩⟩
    · rw [if_pos e]
      constructor
      · rintro ⟨k, q, _⟩
        cases q
      · intro q
        exfalso
        clear w m l z
        revert q
        unfold cN
        cases s <;> rcases hg' with rfl | rfl | rfl <;> simp <;> omega
  · rw [if_neg (by omega), if_neg (by omega)]
    obtain ⟨e1, e2⟩ := z a1 a2
    subst e2
    by_cases e : r' - r = -1
    · rw [if_neg (by omega), if_neg (by omega)]
      have key : (∃ k, some 2 = some k ∧ k ∈ bestK r c' g s) ↔ 2 ∈ bestK r c' g s := ⟨fun ⟨k, e, h⟩ => by cases e; exact h, fun h => ⟨_, rfl, h⟩⟩
      rw [key, mem_bestK, num2 (by omega)]
      have er : r' = r - 1 := by omega
      subst er
      have k1 : (2 : Nat) ∈ kindsG g := by
        have : g = 1 ∨ g = 2 := by omega
        rcases this with rfl | rfl <;> decide
      exact ⟨fun h => h.2.2, fun h => ⟨k1, by omega, h⟩⟩
    · rw [if_pos e]
      constructor
      · rintro ⟨k, q, _⟩
        cases q
      · intro q
        exfalso
        clear w m l z
        revert q
        have : g = 1 ∨ g = 2 := by omega
        unfold cN
        cases s <;> rcases this with rfl | rfl <;> simp <;> omega
theorem evry_mem {α : Type} : ∀ {l : List α} {x : α}, x ∈ evry l → x ∈ l
  | [], _, h => h
  | [_], _, h => h
  | a :: b :: r, x, h => by
    rcases List.mem_cons.mp h with rfl | h
    · exact List.mem_cons_self
    · exact List.mem_cons_of_mem _ (List.mem_cons_of_mem _ (evry_mem h))
theorem cnt_pos {c : Int} {ns : List Int} (x : Nf c ns) (h : 2 ≤ ns.length) {k : Int} (hk : k = 0 ∨ k = 1) : 1 ≤ cntR c ns k := by
  unfold cntR
  match ns, x, h with
  | a :: b :: t, x, _ =>
    have hc := x.hc
    have : ((k + c) % 2).toNat = 0 ∨ ((k + c) % 2).toNat = 1 := by omega
    rcases this with e | e <;> rw [e]
    · have h1 := (le_sum (ns := evry ((a :: b :: t).drop 0)) fun n hn => x.hp n (evry_mem hn)).2 a List.mem_cons_self
      have := x.hp a List.mem_cons_self
      omega
    · have hm : ∀ n ∈ evry ((a :: b :: t).drop 1), 1 ≤ n := fun n hn => x.hp n (List.mem_cons_of_mem _ (evry_mem hn))
      have hb : b ∈ evry ((a :: b :: t).drop 1) := by
        cases t with
        | nil => exact List.mem_cons_self
        | cons _ _ => exact List.mem_cons_self
      have h1 := (le_sum hm).2 b hb
      have := hm b hb
      omega
theorem flip_two_runs {c i j : Int} {ns : List Int} (x : Nf c ns) (h0 : 0 ≤ i) (h1 : i < j) (h2 : j ≤ ns.sum) (h : 2 ≤ ns.length) : 2 ≤ (flipR c ns i j).2.length := by
  obtain ⟨n1, n2, _⟩ := turn_row x h0 h1 h2
  have nf := (flip_ex x h0 (Int.le_of_lt h1) h2).1
  rcases Nat.lt_or_ge (flipR c ns i j).2.length 2 with q | q
  · exfalso
    have l1 : (flipR c ns i j).2.length = 1 := by
      have : (flipR c ns i j).2.length ≠ 0 := fun e => n2 (List.eq_nil_of_length_eq_zero e)
      omega
    have hb := nf.hc
    have hk : 1 - (flipR c ns i j).1 = 0 ∨ 1 - (flipR c ns i j).1 = 1 := by omega
    have e := flip_cnt x h0 (Int.le_of_lt h1) h2 hk
    have p := cnt_pos x h hk
    rw [← e] at p
    obtain ⟨m, hm⟩ : ∃ m, (flipR c ns i j).2 = [m] := by
      match (flipR c ns i j).2, l1 with
      | [m], _ => exact ⟨m, rfl⟩
    unfold cntR at p
    rw [hm, show ((1 - (flipR c ns i j).1 + (flipR c ns i j).1) % 2).toNat = 1 from by omega] at p
    exact absurd (show (1 : Int) ≤ 0 from p) (by decide)
  · exact q
theorem turns_of {c i j : Int} {ns : List Int} (x : Nf c ns) (h0 : 0 ≤ i) (h1 : i < j) (h2 : j ≤ ns.sum) : Turns ns.length (flipR c ns i j).2.length c (flipR c ns i j).1 i j ns.sum := by
  obtain ⟨n1, n2, fW, fI, fL, fR⟩ := turn_row x h0 h1 h2
  have nf := (flip_ex x h0 (Int.le_of_lt h1) h2).1
  have tw := flip_two_runs x h0 h1 h2
  have p1 : 0 < ns.length := List.length_pos_iff.mpr n1
  have p2 : 0 < (flipR c ns i j).2.length := List.length_pos_iff.mpr n2
  refine ⟨x.hc, nf.hc, by omega, by omega, fun h => ?_, h0, h1, h2, fun a b => ?_, fun a b => ?_, fun a b => ?_, fun a b => ?_⟩
  · have := tw (by omega)
    omega
  · obtain ⟨g1, g2, _⟩ := fW a b
    refine ⟨by omega, ?_⟩
    rw [g2]
    unfold lastI
    rw [alt_mod x.hc]
    congr 1
    omega
  · obtain ⟨g1, g2, _⟩ := fI a b
    exact ⟨by omega, g2⟩
  · obtain ⟨g1, g2, _⟩ := fL a b
    exact ⟨by omega, g2.trans (by omega)⟩
  · obtain ⟨g1, g2, _⟩ := fR a b
    exact ⟨by omega, g2⟩
end

section
variable {P : Program} {w : World} {K : PySem.W.Frag} {mg : Str → Option Value} {base : Heap}
/-! ### kinds, by their numbers -/
def kname : Nat → Str
  | 0 => "inner"
  | 1 => "left"
  | 2 => "right"
  | _ => "whole"
def gname : Nat → Str
  | 0 => "front"
  | 1 => "ends"
  | _ => "parts"
def oname : Bool → Str
  | false => "grouped"
  | true => "sorted"
theorem n_ef' : ¬ ("ends" : Str) = "front" := by decide +kernel
theorem n_pf' : ¬ ("parts" : Str) = "front" := by decide +kernel
theorem n_pe' : ¬ ("parts" : Str) = "ends" := by decide +kernel
theorem n_fp' : ¬ ("front" : Str) = "parts" := by decide +kernel
theorem n_ep' : ¬ ("ends" : Str) = "parts" := by decide +kernel
theorem n_fe' : ¬ ("front" : Str) = "ends" := by decide +kernel
theorem n_gs' : ¬ ("grouped" : Str) = "sorted" := by decide +kernel
theorem n_li : ¬ ("left" : Str) = "inner" := by decide +kernel
theorem n_ri : ¬ ("right" : Str) = "inner" := by decide +kernel
theorem n_rl : ¬ ("right" : Str) = "left" := by decide +kernel
theorem n_wi : ¬ ("whole" : Str) = "inner" := by decide +kernel
theorem n_wl : ¬ ("whole" : Str) = "left" := by decide +kernel
theorem n_wr : ¬ ("whole" : Str) = "right" := by decide +kernel
theorem c3 {g : Nat} (h : g < 3) : g = 0 ∨ g = 1 ∨ g = 2 := by omega
theorem c4 {g : Nat} (h : g < 4) : g = 0 ∨ g = 1 ∨ g = 2 ∨ g = 3 := by omega
theorem costC_N {r f : Int} {g : Nat} {s : Bool} (hg : g < 3) : costC r f (.str (gname g)) (.str (oname s)) = cN r f g s := by
  rcases c3 hg with rfl | rfl | rfl <;> cases s <;> simp [costC, sortC, cN, gname, oname, b2n, n_ef', n_pf', n_pe', n_fp', n_ep', n_fe', n_gs']
theorem isGame_n {g : Nat} (hg : g < 3) : isGame (.str (gname g)) = true := by
  rcases c3 hg with rfl | rfl | rfl <;> decide +kernel
theorem isGoal_n (s : Bool) : isGoal (.str (oname s)) = true := by cases s <;> decide +kernel
theorem isGame_g {x : V} (h : isGame x = true) : ∃ g, g < 3 ∧ x = .str (gname g) := by
  rcases isGame_c h with rfl | rfl | rfl
  · exact ⟨0, by decide, rfl⟩
  · exact ⟨1, by decide, rfl⟩
  · exact ⟨2, by decide, rfl⟩
theorem isGoal_o {x : V} (h : isGoal x = true) : ∃ s, x = .str (oname s) := by
  rcases isGoal_c h with rfl | rfl
  · exact ⟨false, rfl⟩
  · exact ⟨true, rfl⟩
theorem gname_ne {g : Nat} (hg : g < 3) (m : Nat) (hm : m < 3) : decide (V.str (gname g) = .str (gname m)) = decide (g = m) := by
  rcases c3 hg with rfl | rfl | rfl <;> rcases c3 hm with rfl | rfl | rfl <;> decide +kernel
theorem kname_ne {g : Nat} (hg : g < 4) (m : Nat) (hm : m < 4) : decide (V.str (kname g) = .str (kname m)) = decide (g = m) := by
  rcases c4 hg with rfl | rfl | rfl | rfl <;> rcases c4 hm with rfl | rfl | rfl | rfl <;> decide +kernel
def numD (r : Int) : List (Key × V) := [(.inr "inner", .int (numK r 0)), (.inr "left", .int (numK r 1)), (.inr "right", .int (numK r 2)), (.inr "whole", .int (numK r 3))]
theorem numD_at (r : Int) {k : Nat} (hk : k < 4) : L2.valV (numD r) (.inr (kname k)) = some (.int (numK r k)) := by
  rcases c4 hk with rfl | rfl | rfl | rfl <;> kernel_rfl
def spNums : Sp := fun vs H Q _ => ∃ r : Int, vs = [.int r] ∧ 0 ≤ r ∧ r ≤ 1000000 ∧ ∀ p, H p = none → Q (.ref p) (upd H p (.dK (numD r)))
theorem merge4 (a b c d : V) : mergeK [] [(.inr "inner", a), (.inr "left", b), (.inr "right", c), (.inr "whole", d)] = [(.inr "inner", a), (.inr "left", b), (.inr "right", c), (.inr "whole", d)] := by
  kernel_rfl
theorem ok_numbers_by_kind (T : TX K mg) : FnS P w K mg base (He.ga K "numbers_by_kind") 1 ["runs"] spNums := by
  refine mk_numbers_by_kind T (fun vs H Q E h => ?_) (fun X vs H Q E C h => ?_)
  · obtain ⟨r, rfl, _⟩ := h
    rfl
  obtain ⟨r, rfl, h0, h1, q⟩ := h
  unfold r_numbers_by_kind
  repeat walk_at "v"
  refine s_ite (fun a => ?_) (fun a => ?_)
  · subst a
    repeat walk_at "v"
    refine s_disp fun p np => ?_
    repeat first | refine s_pcons ?_ | refine s_pnil ?_ | walk_at "v"
    refine ⟨upd_same, [(.inr "inner", .int 0), (.inr "left", .int 0), (.inr "right", .int 0), (.inr "whole", .int 0)], rfl, by show 4 ≤ 15; decide, ?_⟩
    rw [upd_upd, merge4]
    exact q p np
  · repeat walk_at "v"
    refine te_any (fun v H' => v = .int (numK r 0) ∧ H' = H) (fun Q' q' => ?_) (fun v H1 e => ?_)
    · refine s_ifx ?_
      repeat walk_at "v"
      have e0 : numK r 0 = if 2 ≤ r then (r - 2) * (r - 2) / 4 else 0 := rfl
      refine s_ite (fun b => ?_) (fun b => ?_)
      · repeat walk_at "v"
        refine pow_ii ⟨by decide, by decide, by omega⟩ ?_
        repeat walk_at "v"
        refine div_ii (by decide) (small_div (by decide)) ?_
        have z := q' _ _ ⟨rfl, rfl⟩
        rw [e0, if_pos b] at z
        rw [show (r - 2) ^ (2 : Int).toNat = (r - 2) * (r - 2) from by show (r - 2) ^ 2 = _; rw [Int.pow_succ, Int.pow_succ, Int.pow_zero, Int.one_mul]]
        exact z
      · repeat walk_at "v"
        have z := q' _ _ ⟨rfl, rfl⟩
        rw [e0, if_neg b] at z
        exact z
    obtain ⟨rfl, rfl⟩ := e
    repeat walk_at "v"
    refine s_disp fun p np => ?_
    have n1 : numK r 1 = (r - 1) / 2 := if_neg a
    have n3 : numK r 3 = 1 := if_neg a
    repeat first | refine s_pcons ?_ | refine s_pnil ?_ | walk_at "v"
    refine div_ii (by decide) (small_div (by decide)) ?_
    repeat first | refine s_pcons ?_ | refine s_pnil ?_ | walk_at "v"
    refine div_ii (by decide) (small_div (by decide)) ?_
    repeat first | refine s_pcons ?_ | refine s_pnil ?_ | walk_at "v"
    refine ⟨upd_same, [(.inr "inner", .int (numK r 0)), (.inr "left", .int ((r - 1) / 2)), (.inr "right", .int ((r - 1) / 2)), (.inr "whole", .int 1)], rfl, by show 4 ≤ 15; decide, ?_⟩
    rw [upd_upd, merge4, ← n1, ← n3]
    exact q p np
def spState : Sp := fun vs H Q _ => ∃ (r f : Int) (k : Nat), vs = [.int r, .int f, .str (kname k)] ∧ k < 4 ∧ ∀ p, H p = none → Q (.ref p) (upd H p (.tup [.int (stK r f k).1, .int (stK r f k).2]))
theorem ok_state_after (T : TX K mg) : FnS P w K mg base (He.ga K "state_after") 1 ["runs", "first", "kind"] spState := by
  refine mk_state_after T (fun vs H Q E h => ?_) (fun X vs H Q E C h => ?_)
  · obtain ⟨r, f, k, rfl, _⟩ := h
    rfl
  obtain ⟨r, f, k, rfl, hk, q⟩ := h
  unfold r_state_after
  repeat walk_at "v"
  refine eq_sc rfl ?_
  rw [show ("inner" : Str) = kname 0 from rfl, kname_ne hk 0 (by decide)]
  repeat walk_at "v"
  refine s_ite (fun a => ?_) (fun a => ?_)
  · subst a
    repeat walk_at "v"
    exact ⟨szr rfl, q⟩
  repeat walk_at "v"
  refine eq_sc rfl ?_
  rw [show ("left" : Str) = kname 1 from rfl, kname_ne hk 1 (by decide)]
  repeat walk_at "v"
  refine s_ite (fun b => ?_) (fun b => ?_)
  · subst b
    repeat walk_at "v"
    exact ⟨szr rfl, q⟩
  repeat walk_at "v"
  refine eq_sc rfl ?_
  rw [show ("right" : Str) = kname 2 from rfl, kname_ne hk 2 (by decide)]
  repeat walk_at "v"
  refine s_ite (fun c => ?_) (fun c => ?_)
  · subst c
    repeat walk_at "v"
    exact ⟨szr rfl, q⟩
  repeat walk_at "v"
  obtain rfl : k = 3 := by omega
  refine mod_ii (by decide) ?_
  repeat walk_at "v"
  exact ⟨szr rfl, q⟩
def kvs (l : List Nat) : List V := l.map fun k => V.str (kname k)
def spKindsG : Sp := fun vs H Q _ => ∃ g : Nat, vs = [.str (gname g)] ∧ g < 3 ∧ ∀ p, H p = none → Q (.ref p) (upd H p (.lst (kvs (kindsG g))))
theorem ok_kinds_of_game (T : TX K mg) : FnS P w K mg base (He.ga K "kinds_of_game") 1 ["game"] spKindsG := by
  refine mk_kinds_of_game T (fun vs H Q E h => ?_) (fun X vs H Q E C h => ?_)
  · obtain ⟨g, rfl, _⟩ := h
    rfl
  obtain ⟨g, rfl, hg, q⟩ := h
  unfold r_kinds_of_game
  repeat walk_at "v"
  refine eq_sc rfl ?_
  rw [show ("front" : Str) = gname 0 from rfl, gname_ne hg 0 (by decide)]
  repeat walk_at "v"
  refine s_ite (fun a => ?_) (fun a => ?_)
  · subst a
    repeat walk_at "v"
    exact ⟨szr rfl, q⟩
  repeat walk_at "v"
  refine eq_sc rfl ?_
  rw [show ("ends" : Str) = gname 1 from rfl, gname_ne hg 1 (by decide)]
  repeat walk_at "v"
  refine s_ite (fun b => ?_) (fun b => ?_)
  · subst b
    repeat walk_at "v"
    exact ⟨szr rfl, q⟩
  repeat walk_at "v"
  obtain rfl : g = 2 := by omega
  exact ⟨szr rfl, q⟩
def spBestK : Sp := fun vs H Q _ => ∃ (r f : Int) (g : Nat) (s : Bool), vs = [.int r, .int f, .str (gname g), .str (oname s)] ∧ g < 3 ∧ 0 ≤ r ∧ r ≤ 1000000 ∧ ∀ p H', H p = none → Same H H' → H' p = some (.lst (kvs (bestK r f g s))) → Q (.ref p) H'
theorem ok_best_kinds (T : TX K mg) : FnS P w K mg base (He.ga K "best_kinds") 3 ["runs", "first", "game", "goal"] spBestK := by
  refine mk_best_kinds T (fun vs H Q E h => ?_) (fun X vs H Q E C h => ?_)
  · obtain ⟨r, f, g, s, rfl, _⟩ := h
    rfl
  obtain ⟨r, f, g, s, rfl, hg, h0, h1, q⟩ := h
  have hK := C.K
  unfold r_best_kinds
  repeat walk_at "v"
  refine cv_fn C (ok_plain_cost T) (by omega) ⟨r, f, _, _, rfl, ?_⟩
  rw [costC_N hg]
  repeat walk_at "v"
  refine ⟨szr rfl, fun b nb => ?_⟩
  have u1 : Same H _ := same_upd (o := .lst []) nb
  have hb : (upd H b (.lst [])) b = some (.lst []) := upd_same
  generalize upd H b (.lst []) = H1 at u1 hb ⊢
  repeat walk_at "v"
  refine s_forL ?_
  repeat walk_at "v"
  refine cv_fn C (ok_kinds_of_game T) (by omega) ⟨g, rfl, hg, fun l nl => ?_⟩
  have u2 := same_upd (o := .lst (kvs (kindsG g))) nl
  have hl : (upd H1 l (.lst (kvs (kindsG g)))) l = some (.lst (kvs (kindsG g))) := upd_same
  have hb2 := u2 _ _ hb
  have lb : l ≠ b := ne_new hb nl
  have s2 := u1.trans u2
  generalize upd H1 l (.lst (kvs (kindsG g))) = H2 at u2 hl hb2 s2 ⊢
  refine it_l C (.of hl) ?_
  refine lp_list (xs := kvs (kindsG g)) (fun i σ H' => ∃ o6 o7 o8, σ = [some (.int r), some (.int f), some (.str (gname g)), some (.str (oname s)), some (.int (cN r f g s)), some (.ref b), o6, o7, o8] ∧ SameX b H2 H' ∧ Same H H' ∧ H' b = some (.lst (kvs (((kindsG g).take i).filter (isBK r f g s))))) ⟨_, _, _, rfl, SameX.refl, s2, hb2⟩ ?_ ?_ ?_
  · rintro i σ H' _ ⟨_, _, _, rfl, sx, _, _⟩
    exact .of (sx _ _ lb hl)
  · rintro i x σ H' hx ⟨o6, o7, o8, rfl, sx, sH, hf⟩
    obtain ⟨k, ek, rfl⟩ : ∃ k, (kindsG g)[i]? = some k ∧ V.str (kname k) = x := by
      unfold kvs at hx
      rw [List.getElem?_map] at hx
      cases q : (kindsG g)[i]? with
      | none => rw [q] at hx; cases hx
      | some z => rw [q] at hx; cases hx; exact ⟨z, rfl, rfl⟩
    have hk : k < 4 := by
      have := List.mem_of_getElem? ek
      revert this
      rcases c3 hg with rfl | rfl | rfl <;> simp [kindsG] <;> omega
    obtain ⟨hi, ei⟩ := List.getElem?_eq_some_iff.mp ek
    have st : (kindsG g).take (i + 1) = (kindsG g).take i ++ [k] := by rw [List.take_succ_eq_append_getElem hi, ei]
    have len : ((kindsG g).take i).length ≤ 100 := by
      have : (kindsG g).length ≤ 4 := by rcases c3 hg with rfl | rfl | rfl <;> decide
      rw [List.length_take]
      omega
    rw [st, List.filter_append]
    generalize (kindsG g).take i = done at hf len ⊢
    have no : isBK r f g s k = false → kvs (done.filter (isBK r f g s) ++ [k].filter (isBK r f g s)) = kvs (done.filter (isBK r f g s)) := fun e => by
      rw [List.filter_cons, if_neg (by rw [e]; decide)]
      simp
    have yes : isBK r f g s k = true → kvs (done.filter (isBK r f g s) ++ [k].filter (isBK r f g s)) = kvs (done.filter (isBK r f g s)) ++ [V.str (kname k)] := fun e => by
      rw [List.filter_cons, if_pos e]
      unfold kvs
      rw [List.map_append]
      rfl
    repeat walk_at "v"
    refine cv_fn C (ok_numbers_by_kind T) (by omega) ⟨r, rfl, h0, h1, fun d nd => ?_⟩
    repeat walk_at "v"
    have u3 := same_upd (o := .dK (numD r)) nd
    refine ix_d C (v := .int (numK r k)) (.inl ⟨_, .inr (kname k), .inl upd_same, rfl, (numD_at r hk).symm⟩) ?_
    have hf3 := u3 _ _ hf
    have nb0 : d ≠ b := ne_new hf nd
    have sx3 : SameX b H2 _ := sx.trans (Same_x u3)
    have sH3 := sH.trans u3
    generalize upd H' d (.dK (numD r)) = H3 at hf3 sx3 sH3 ⊢
    repeat walk_at "v"
    refine s_ite (fun pos => ?_) (fun pos => ?_)
    · repeat walk_at "v"
      refine cv_fn C (ok_state_after T) (by omega) ⟨r, f, k, rfl, hk, fun t nt => ?_⟩
      have u4 := same_upd (o := .tup [.int (stK r f k).1, .int (stK r f k).2]) nt
      have ht : (upd H3 t (.tup [.int (stK r f k).1, .int (stK r f k).2])) t = _ := upd_same
      have hf4 := u4 _ _ hf3
      have sx4 := sx3.trans (Same_x (l := b) u4)
      have sH4 := sH3.trans u4
      generalize upd H3 t (.tup [.int (stK r f k).1, .int (stK r f k).2]) = H4 at ht hf4 sx4 sH4 ⊢
      rw [hK]
      refine s_unpT (.of ht) rfl ?_
      refine s_gcons (s_gname (s_gcons (s_gname (s_gnil ?_))))
      repeat walk_at "v"
      refine cv_fn C (ok_plain_cost T) (by omega) ⟨_, _, _, _, rfl, ?_⟩
      rw [costC_N hg]
      repeat walk_at "v"
      refine s_ite (fun lt => ?_) (fun lt => ?_)
      · have e : isBK r f g s k = true := by
          unfold isBK
          rw [decide_eq_true pos, decide_eq_true lt]
          rfl
        rw [yes e]
        repeat walk_at "v"
        refine ⟨_, mth_append C (.of hf4), ?_⟩
        repeat walk_at "v"
        refine app_m hf4 (by unfold kvs; rw [List.length_map]; exact Nat.lt_of_le_of_lt (Nat.le_trans (List.length_filter_le _ _) len) (by decide)) ?_
        refine ⟨_, _, _, rfl, fun c o nc ec => ?_, fun c o ec => ?_, upd_same⟩
        · rw [upd_ne nc]
          exact sx4 _ _ nc ec
        · rw [upd_ne (ne_of_none ec nb)]
          exact sH4 _ _ ec
      · have e : isBK r f g s k = false := by
          unfold isBK
          rw [decide_eq_false lt, Bool.and_false]
        rw [no e]
        refine s_next (nx_mk ?_)
        exact ⟨_, _, _, rfl, sx4, sH4, hf4⟩
    · have e : isBK r f g s k = false := by
        unfold isBK
        rw [decide_eq_false pos, Bool.false_and]
      rw [no e]
      refine s_next (nx_mk ?_)
      exact ⟨_, _, _, rfl, sx3, sH3, hf3⟩
  · rintro σ H' ⟨o6, o7, o8, rfl, sx, sH, hf⟩
    repeat walk_at "v"
    rw [show (kvs (kindsG g)).length = (kindsG g).length from by unfold kvs; rw [List.length_map], List.take_of_length_le (Nat.le_refl _)] at hf
    exact q b H' nb sH hf
end

section
variable {P : Program} {w : World} {K : PySem.W.Frag} {mg : Str → Option Value} {base : Heap}
theorem kindsG_lt {g : Nat} {k : Nat} (h : k ∈ kindsG g) : k < 4 := by
  have : g = 0 ∨ g = 1 ∨ 2 ≤ g := by omega
  rcases this with rfl | rfl | h2
  · simp [kindsG] at h; omega
  · simp [kindsG] at h; omega
  · obtain ⟨m, rfl⟩ : ∃ m, g = m + 2 := ⟨g - 2, by omega⟩
    simp [kindsG] at h
    omega
theorem bestK_lt {r f : Int} {g : Nat} {s : Bool} : ∀ m ∈ bestK r f g s, m < 4 := fun m hm => kindsG_lt (List.mem_filter.mp hm).1
/-- the words' errors -/
def WordsE (K : PySem.W.Frag) (H : Hp) (y z : V) (E : XK) : Prop := (isGame y = false ∧ ∀ H', Same H H' → E (.ref (He.ga K "InvalidGame")) none H') ∨ (isGame y = true ∧ isGoal z = false ∧ ∀ H', Same H H' → E (.ref (He.ga K "InvalidGoal")) none H')
theorem words_e {X : Cx} {W : WX} {σ : L2.St} {H : Hp} {Q : VK} {k : Nat} (T : TX K mg) (C : Ctx P w K mg base k X W) (hk : 3 ≤ k) {y z : V} {t u : Value} (sy : StrK K H y t) (sz : StrK K H z u) (h : WordsE K H y z (fun cls d H' => W cls d σ H')) : CV X (.ref (He.ga K "check_words")) [y, z] σ H Q := by
  refine cv_fn C (ok_check_words T) hk ⟨y, t, z, u, rfl, sy, sz, fun a b => ?_, fun a => ?_, fun a b => ?_⟩
  · rcases h with ⟨h, _⟩ | ⟨_, h, _⟩
    · rw [a] at h; cases h
    · rw [b] at h; cases h
  · rcases h with ⟨_, q⟩ | ⟨h, _⟩
    · exact q
    · rw [a] at h; cases h
  · rcases h with ⟨h, _⟩ | ⟨_, _, q⟩
    · rw [a] at h; cases h
    · exact q
theorem words_ok {X : Cx} {W : WX} {σ : L2.St} {H : Hp} {Q : VK} {k : Nat} (T : TX K mg) (C : Ctx P w K mg base k X W) (hk : 3 ≤ k) {g : Nat} (hg : g < 3) {s : Bool} (q : ∀ H', Same H H' → Q .non H') : CV X (.ref (He.ga K "check_words")) [.str (gname g), .str (oname s)] σ H Q :=
  cv_fn C (ok_check_words T) hk ⟨_, _, _, _, rfl, .str, .str, fun _ _ => q, (fun a => by rw [isGame_n hg] at a; cases a), fun _ b => by rw [isGoal_n] at b; cases b⟩
end

section
/-! ### plain: borders, the flips that a plan takes -/
def bo (ns : List Int) (k : Nat) : Int := (ns.take k).sum
theorem bo_0 (ns : List Int) : bo ns 0 = 0 := rfl
theorem bo_all (ns : List Int) {k : Nat} (h : ns.length ≤ k) : bo ns k = ns.sum := by
  unfold bo
  rw [List.take_of_length_le h]
theorem bo_succ {ns : List Int} {k : Nat} (h : k < ns.length) : bo ns (k + 1) = bo ns k + ns[k] := by
  unfold bo
  rw [List.take_succ_eq_append_getElem h, sum_app]
  simp
theorem bo_lt {ns : List Int} (hp : ∀ n ∈ ns, 1 ≤ n) {a b : Nat} (h : a < b) (hb : b ≤ ns.length) : bo ns a < bo ns b := by
  induction b with
  | zero => omega
  | succ b ih =>
    have e := bo_succ (ns := ns) (k := b) (by omega)
    have p := hp _ (List.getElem_mem (by omega : b < ns.length))
    by_cases q : a = b
    · subst q
      omega
    · have := ih (by omega) (by omega)
      omega
theorem bo_nn {ns : List Int} (hp : ∀ n ∈ ns, 1 ≤ n) (k : Nat) : 0 ≤ bo ns k := (le_sum fun n hn => hp n (List.mem_of_mem_take hn)).1
theorem bo_le {ns : List Int} (hp : ∀ n ∈ ns, 1 ≤ n) {a b : Nat} (h : a ≤ b) (hb : b ≤ ns.length) : bo ns a ≤ bo ns b := by
  by_cases q : a = b
  · rw [q]
    exact Int.le_refl _
  · exact Int.le_of_lt (bo_lt hp (by omega) hb)
/-- the item at a place of the run k -/
theorem ex_at : ∀ {ns : List Int} {c : Int} {k p : Nat}, (∀ n ∈ ns, 1 ≤ n) → k < ns.length → bo ns k ≤ p → (p : Int) < bo ns (k + 1) → (ex c ns).getD p 0 = alt c k
  | [], _, _, _, _, h, _, _ => absurd h (Nat.not_lt_zero _)
  | n :: ns, c, 0, p, hp, _, h1, h2 => by
    have e : bo (n :: ns) 1 = n := by unfold bo; simp
    have h2' : (p : Int) < n := by rw [e] at h2; exact h2
    show (List.replicate n.toNat c ++ ex (1 - c) ns).getD p 0 = c
    rw [List.getD_eq_getElem?_getD, List.getElem?_append_left (by rw [List.length_replicate]; omega), List.getElem?_replicate, if_pos (by omega)]
    rfl
  | n :: ns, c, k + 1, p, hp, hk, h1, h2 => by
    have n1 := hp n List.mem_cons_self
    have e1 : bo (n :: ns) (k + 1) = n + bo ns k := by unfold bo; rw [List.take_succ_cons, List.sum_cons]
    have e2 : bo (n :: ns) (k + 1 + 1) = n + bo ns (k + 1) := by unfold bo; rw [List.take_succ_cons, List.sum_cons]
    have hp' : ∀ m ∈ ns, 1 ≤ m := fun m hm => hp m (List.mem_cons_of_mem _ hm)
    have nn := bo_nn hp' k
    rw [e1] at h1
    rw [e2] at h2
    have ih := ex_at (ns := ns) (c := 1 - c) (k := k) (p := p - n.toNat) hp' (by rw [List.length_cons] at hk; omega) (by omega) (by omega)
    show (List.replicate n.toNat c ++ ex (1 - c) ns).getD p 0 = _
    rw [List.getD_eq_getElem?_getD, List.getElem?_append_right (by rw [List.length_replicate]; omega), List.length_replicate, ← List.getD_eq_getElem?_getD, ih]
    exact alt_succ c k
theorem ex_bo {c : Int} {ns : List Int} (x : Nf c ns) {k : Nat} (h : k < ns.length) : (ex c ns).getD (bo ns k).toNat 0 = alt c k := by
  have := bo_nn x.hp k
  have : bo ns k < bo ns (k + 1) := bo_lt x.hp (Nat.lt_succ_self k) h
  exact ex_at x.hp h (by omega) (by omega)
theorem ex_bo1 {c : Int} {ns : List Int} (x : Nf c ns) {k : Nat} (h0 : 0 < k) (h : k ≤ ns.length) : (ex c ns).getD ((bo ns k).toNat - 1) 0 = alt c (k - 1) := by
  have := bo_nn x.hp (k - 1)
  have := bo_lt x.hp (by omega : k - 1 < k) h
  exact ex_at x.hp (by omega) (by omega) (by rw [show k - 1 + 1 = k from by omega]; omega)
theorem nr_len {c : Int} {ns : List Int} (x : Nf c ns) : nrL (ex c ns) = ns.length := by
  by_cases h : ns = []
  · rw [h]
    rfl
  · obtain ⟨R, r1, r2, _⟩ := ex_cf ns c x.hp h
    rw [r1]
    exact r2.symm
/-- how the number of runs changes -/
theorem runs_chg {c i j : Int} {ns : List Int} (x : Nf c ns) (h0 : 0 ≤ i) (h1 : i < j) (h2 : j ≤ ns.sum) :
    (flipR c ns i j).2.length + (if 0 < i then bd ((ex c ns).getD (i.toNat - 1) 0) ((ex c ns).getD i.toNat 0) else 0) + (if j < ns.sum then bd ((ex c ns).getD (j.toNat - 1) 0) ((ex c ns).getD j.toNat 0) else 0) =
      ns.length + (if 0 < i then bd ((ex c ns).getD (i.toNat - 1) 0) ((ex c ns).getD (j.toNat - 1) 0) else 0) + (if j < ns.sum then bd ((ex c ns).getD i.toNat 0) ((ex c ns).getD j.toNat 0) else 0) := by
  have hl := len_nat x
  have t := chg_ix (L := ex c ns) (i := i.toNat) (j := j.toNat) (by omega) (by omega)
  rw [← len_flip x h0 (Int.le_of_lt h1) h2, nr_len x, hl] at t
  have e1 : (0 < i.toNat) = (0 < i) := propext ⟨fun _ => by omega, fun _ => by omega⟩
  have e2 : (j.toNat < ns.sum.toNat) = (j < ns.sum) := propext ⟨fun _ => by omega, fun _ => by omega⟩
  simp only [e1, e2] at t
  exact t
theorem bd_ne {c : Int} (k : Nat) : bd (alt c k) (alt c (k + 1)) = 1 := by
  have := alt_one c k
  unfold bd
  rw [if_neg (by omega)]
theorem bd_two {c : Int} (k : Nat) : bd (alt c k) (alt c (k + 2)) = 0 := by
  have := alt_one c k
  have : 1 - alt c (k + 1) = alt c (k + 2) := alt_one c (k + 1)
  unfold bd
  rw [if_pos (by omega)]
/-- the flip of a kind that a plan takes -/
def placeK (ns : List Int) : Nat → Int × Int
  | 0 => (bo ns 1, bo ns 3)
  | 1 => (0, bo ns 2)
  | 2 => (bo ns (ns.length - 2), bo ns ns.length)
  | _ => (0, bo ns ns.length)
theorem place_ok {c : Int} {ns : List Int} (x : Nf c ns) {k : Nat} (hk : k < 4) (hn : 0 < numK ns.length k) : 0 ≤ (placeK ns k).1 ∧ (placeK ns k).1 < (placeK ns k).2 ∧ (placeK ns k).2 ≤ ns.sum ∧
    (k = 0 → 0 < (placeK ns k).1 ∧ (placeK ns k).2 < ns.sum ∧ 4 ≤ ns.length) ∧ (k = 1 → (placeK ns k).1 = 0 ∧ (placeK ns k).2 < ns.sum ∧ 3 ≤ ns.length) ∧ (k = 2 → 0 < (placeK ns k).1 ∧ (placeK ns k).2 = ns.sum ∧ 3 ≤ ns.length) ∧ (k = 3 → (placeK ns k).1 = 0 ∧ (placeK ns k).2 = ns.sum ∧ 1 ≤ ns.length) := by
  have all := bo_all ns (Nat.le_refl _)
  have c4' : k = 0 ∨ k = 1 ∨ k = 2 ∨ k = 3 := by omega
  rcases c4' with rfl | rfl | rfl | rfl
  · have h4 : 4 ≤ ns.length := by have := num0.mp hn; omega
    have a1 := bo_lt x.hp (by omega : 0 < 1) (by omega : 1 ≤ ns.length)
    have a2 := bo_lt x.hp (by omega : 1 < 3) (by omega : 3 ≤ ns.length)
    have a3 := bo_lt x.hp (by omega : 3 < ns.length) (Nat.le_refl _)
    rw [bo_0] at a1
    show 0 ≤ bo ns 1 ∧ bo ns 1 < bo ns 3 ∧ bo ns 3 ≤ ns.sum ∧ (0 = 0 → 0 < bo ns 1 ∧ bo ns 3 < ns.sum ∧ 4 ≤ ns.length) ∧ _
    refine ⟨by omega, a2, by omega, fun _ => ⟨a1, by omega, h4⟩, (fun z => nomatch z), (fun z => nomatch z), (fun z => nomatch z)⟩
  · have h3 : 3 ≤ ns.length := by have := (num1 (by omega)).mp hn; omega
    have a1 := bo_lt x.hp (by omega : 0 < 2) (by omega : 2 ≤ ns.length)
    have a3 := bo_lt x.hp (by omega : 2 < ns.length) (Nat.le_refl _)
    rw [bo_0] at a1
    show (0 : Int) ≤ 0 ∧ 0 < bo ns 2 ∧ bo ns 2 ≤ ns.sum ∧ _ ∧ (1 = 1 → (0 : Int) = 0 ∧ bo ns 2 < ns.sum ∧ 3 ≤ ns.length) ∧ _
    refine ⟨by omega, a1, by omega, (fun z => nomatch z), fun _ => ⟨rfl, by omega, h3⟩, (fun z => nomatch z), (fun z => nomatch z)⟩
  · have h3 : 3 ≤ ns.length := by have := (num2 (by omega)).mp hn; omega
    have a1 := bo_lt x.hp (by omega : 0 < ns.length - 2) (by omega : ns.length - 2 ≤ ns.length)
    have a3 := bo_lt x.hp (by omega : ns.length - 2 < ns.length) (Nat.le_refl _)
    rw [bo_0] at a1
    show 0 ≤ bo ns (ns.length - 2) ∧ bo ns (ns.length - 2) < bo ns ns.length ∧ bo ns ns.length ≤ ns.sum ∧ _ ∧ _ ∧ (2 = 2 → 0 < bo ns (ns.length - 2) ∧ bo ns ns.length = ns.sum ∧ 3 ≤ ns.length) ∧ _
    refine ⟨by omega, a3, by omega, (fun z => nomatch z), (fun z => nomatch z), fun _ => ⟨a1, all, h3⟩, (fun z => nomatch z)⟩
  · have h1 : 1 ≤ ns.length := by have := (num3 (by omega)).mp hn; omega
    have a1 := bo_lt x.hp (by omega : 0 < ns.length) (Nat.le_refl _)
    rw [bo_0] at a1
    show (0 : Int) ≤ 0 ∧ 0 < bo ns ns.length ∧ bo ns ns.length ≤ ns.sum ∧ _ ∧ _ ∧ _ ∧ (3 = 3 → (0 : Int) = 0 ∧ bo ns ns.length = ns.sum ∧ 1 ≤ ns.length)
    refine ⟨by omega, a1, by omega, (fun z => nomatch z), (fun z => nomatch z), (fun z => nomatch z), fun _ => ⟨rfl, all, h1⟩⟩
/-- it does what the kind's state says -/
theorem place_state {c : Int} {ns : List Int} (x : Nf c ns) {k : Nat} (hk : k < 4) (hn : 0 < numK ns.length k) :
    (((flipR c ns (placeK ns k).1 (placeK ns k).2).2.length : Int), (flipR c ns (placeK ns k).1 (placeK ns k).2).1) = stK ns.length c k := by
  obtain ⟨p0, p1, p2, q0, q1, q2, q3⟩ := place_ok x hk hn
  have T := turns_of x p0 p1 p2
  have R := runs_chg x p0 p1 p2
  have all := bo_all ns (Nat.le_refl _)
  have c4' : k = 0 ∨ k = 1 ∨ k = 2 ∨ k = 3 := by omega
  rcases c4' with rfl | rfl | rfl | rfl
  · obtain ⟨a, b, h4⟩ := q0 rfl
    obtain ⟨_, m2⟩ := T.m a b
    rw [if_pos a, if_pos b, if_pos a, if_pos b] at R
    have g1 : (ex c ns).getD ((placeK ns 0).1.toNat - 1) 0 = alt c 0 := ex_bo1 x (by omega) (by omega)
    have g2 : (ex c ns).getD (placeK ns 0).1.toNat 0 = alt c 1 := ex_bo x (by omega)
    have g3 : (ex c ns).getD ((placeK ns 0).2.toNat - 1) 0 = alt c 2 := ex_bo1 x (by omega) (by omega)
    have g4 : (ex c ns).getD (placeK ns 0).2.toNat 0 = alt c 3 := ex_bo x (by omega)
    rw [g1, g2, g3, g4, bd_ne, bd_ne, bd_two, bd_two] at R
    show (_, _) = ((ns.length : Int) - 2, c)
    rw [m2]
    congr 1
    omega
  · obtain ⟨a, b, h3⟩ := q1 rfl
    obtain ⟨_, m2⟩ := T.l a b
    rw [if_neg (by omega : ¬ 0 < (placeK ns 1).1), if_neg (by omega : ¬ 0 < (placeK ns 1).1), if_pos b, if_pos b] at R
    have g2 : (ex c ns).getD (placeK ns 1).1.toNat 0 = alt c 0 := by
      have := ex_bo x (k := 0) (by omega)
      rw [bo_0] at this
      exact this
    have g3 : (ex c ns).getD ((placeK ns 1).2.toNat - 1) 0 = alt c 1 := ex_bo1 x (by omega) (by omega)
    have g4 : (ex c ns).getD (placeK ns 1).2.toNat 0 = alt c 2 := ex_bo x (by omega)
    rw [g2, g3, g4, bd_ne, bd_two] at R
    have hb := T.b
    have hb' := T.b'
    show (_, _) = ((ns.length : Int) - 1, 1 - c)
    congr 1
    · omega
    · omega
  · obtain ⟨a, b, h3⟩ := q2 rfl
    obtain ⟨_, m2⟩ := T.z a b
    rw [if_pos a, if_pos a, if_neg (by omega : ¬ (placeK ns 2).2 < ns.sum), if_neg (by omega : ¬ (placeK ns 2).2 < ns.sum)] at R
    have g1 : (ex c ns).getD ((placeK ns 2).1.toNat - 1) 0 = alt c (ns.length - 2 - 1) := ex_bo1 x (by omega) (by omega)
    have g2 : (ex c ns).getD (placeK ns 2).1.toNat 0 = alt c (ns.length - 2) := ex_bo x (by omega)
    have g3 : (ex c ns).getD ((placeK ns 2).2.toNat - 1) 0 = alt c (ns.length - 1) := ex_bo1 x (by omega) (by omega)
    obtain ⟨m, em⟩ : ∃ m, ns.length = m + 3 := ⟨ns.length - 3, by omega⟩
    rw [g1, g2, g3, em, show m + 3 - 2 - 1 = m from by omega, show m + 3 - 2 = m + 1 from by omega, show m + 3 - 1 = m + 2 from by omega, bd_ne, bd_two] at R
    show (_, _) = ((ns.length : Int) - 1, c)
    rw [m2]
    congr 1
    omega
  · obtain ⟨a, b, h1⟩ := q3 rfl
    obtain ⟨w1, w2⟩ := T.w a b
    show (_, _) = ((ns.length : Int), (c + ns.length - 1) % 2)
    rw [w1, w2]
/-- where a row has not the goal, there is a best kind -/
theorem best_some {r c : Int} {g : Nat} {s : Bool} (hc : c = 0 ∨ c = 1) (hg : g < 3) (h : 0 < cN r c g s) : bestK r c g s ≠ [] := by
  have key : (∃ k, k ∈ bestK r c g s) → bestK r c g s ≠ [] := fun ⟨k, hk⟩ e => by rw [e] at hk; cases hk
  apply key
  have hr : 2 ≤ r := by
    rcases Int.lt_or_le r 2 with q | q
    · unfold cN at h
      rw [if_pos q] at h
      omega
    · exact q
  have hg' : g = 0 ∨ g = 1 ∨ g = 2 := by omega
  have m : ∀ k, k ∈ kindsG g → 0 < numK r k → cN (stK r c k).1 (stK r c k).2 g s < cN r c g s → ∃ k, k ∈ bestK r c g s := fun k a b d => ⟨k, mem_bestK.mpr ⟨a, b, d⟩⟩
  have k3 : (3 : Nat) ∈ kindsG g := by rcases hg' with rfl | rfl | rfl <;> decide
  have k1 : (1 : Nat) ∈ kindsG g := by rcases hg' with rfl | rfl | rfl <;> decide
  have n3 : 0 < numK r 3 := (num3 (by omega)).mpr (by omega)
  have n1 : 3 ≤ r → 0 < numK r 1 := fun q => (num1 (by omega)).mpr q
  have n2 : 3 ≤ r → 0 < numK r 2 := fun q => (num2 (by omega)).mpr q
  have n0 : 4 ≤ r → 0 < numK r 0 := fun q => num0.mpr q
  have s1 : stK r c 1 = (r - 1, 1 - c) := rfl
  have s2 : stK r c 2 = (r - 1, c) := rfl
  have s0 : stK r c 0 = (r - 2, c) := rfl
  have s3 : stK r c 3 = (r, (c + r - 1) % 2) := rfl
  have viaK : ∀ k, (k = 1 ∨ (k = 2 ∧ g ≠ 0) ∨ (k = 0 ∧ g = 2) ∨ k = 3) → (k = 1 → 3 ≤ r) → (k = 2 → 3 ≤ r) → (k = 0 → 4 ≤ r) → cN (stK r c k).1 (stK r c k).2 g s < cN r c g s → ∃ k, k ∈ bestK r c g s := fun k hk h1 h2 h0 d => by
    refine m k ?_ ?_ d
    · rcases hk with rfl | ⟨rfl, q⟩ | ⟨rfl, q⟩ | rfl
      · exact k1
      · rcases hg' with rfl | rfl | rfl
        · exact absurd rfl q
        · decide
        · decide
      · subst q
        decide
      · exact k3
    · rcases hk with rfl | ⟨rfl, q⟩ | ⟨rfl, q⟩ | rfl
      · exact n1 (h1 rfl)
      · exact n2 (h2 rfl)
      · exact n0 (h0 rfl)
      · exact n3
  clear m k3 k1 n3 n1 n2 n0
  rcases hg' with rfl | rfl | rfl
  · by_cases r3 : 3 ≤ r
    · refine viaK 1 (.inl rfl) (fun _ => r3) (fun _ => r3) (fun z => nomatch z) ?_
      rw [s1]
      unfold cN
      cases s <;> simp <;> omega
    · refine viaK 3 (.inr (.inr (.inr rfl))) (fun z => nomatch z) (fun z => nomatch z) (fun z => nomatch z) ?_
      rw [s3]
      unfold cN at h ⊢
      cases s <;> simp at h ⊢ <;> omega
  · by_cases r3 : 3 ≤ r
    · by_cases b : s = true ∧ r = 3 ∧ c = 0
      · obtain ⟨rfl, rfl, rfl⟩ := b
        exact viaK 2 (.inr (.inl ⟨rfl, by decide⟩)) (fun z => nomatch z) (fun _ => by decide) (fun z => nomatch z) (by decide)
      · refine viaK 1 (.inl rfl) (fun _ => r3) (fun _ => r3) (fun z => nomatch z) ?_
        rw [s1]
        unfold cN
        cases s <;> simp at b ⊢ <;> omega
    · refine viaK 3 (.inr (.inr (.inr rfl))) (fun z => nomatch z) (fun z => nomatch z) (fun z => nomatch z) ?_
      rw [s3]
      unfold cN at h ⊢
      cases s <;> simp at h ⊢ <;> omega
  · by_cases r4 : 4 ≤ r
    · refine viaK 0 (.inr (.inr (.inl ⟨rfl, rfl⟩))) (fun z => nomatch z) (fun z => nomatch z) (fun _ => r4) ?_
      rw [s0]
      unfold cN
      cases s <;> simp <;> omega
    · by_cases r3 : r = 3
      · subst r3
        rcases hc with rfl | rfl
        · exact viaK 2 (.inr (.inl ⟨rfl, by decide⟩)) (fun z => nomatch z) (fun _ => by decide) (fun z => nomatch z) (by cases s <;> decide)
        · exact viaK 1 (.inl rfl) (fun _ => by decide) (fun z => nomatch z) (fun z => nomatch z) (by cases s <;> decide)
      · refine viaK 3 (.inr (.inr (.inr rfl))) (fun z => nomatch z) (fun z => nomatch z) (fun z => nomatch z) ?_
        rw [s3]
        obtain rfl : r = 2 := by omega
        rcases hc with rfl | rfl <;> cases s <;> revert h <;> decide
end

section
variable {P : Program} {w : World} {K : PySem.W.Frag} {mg : Str → Option Value} {base : Heap}
/-! ### borders, shortest plans found -/
def bors (ns : List Int) : List Int := (List.range (ns.length + 1)).map fun k => bo ns k
theorem bors_at {ns : List Int} {k : Nat} (h : k ≤ ns.length) : (bors ns)[k]? = some (bo ns k) := by
  unfold bors
  rw [List.getElem?_map, List.getElem?_range (by omega)]
  rfl
theorem bors_ix {ns : List Int} {k : Nat} (h : k ≤ ns.length) : atI ((bors ns).map V.int) ((k : Nat) : Int) = some (.int (bo ns k)) := at_of (j := k) rfl (by rw [List.getElem?_map, bors_at h]; rfl)
def spBorders (K : PySem.W.Frag) : Sp := fun vs H Q _ => ∃ p c ns, vs = [.ref p] ∧ RowAt K H p c ns ∧ ns.length ≤ 50000 ∧ ∀ l H', H l = none → Same H H' → H' l = some (.lst ((bors ns).map V.int)) → Q (.ref l) H'
theorem ok_Row_borders (T : TX K mg) : FnS P w K mg base (He.ma K (cRow K) "borders") 1 ["self"] (spBorders K) := by
  refine mk_Row_borders T (fun vs H Q E h => ?_) (fun X vs H Q E C h => ?_)
  · obtain ⟨p, c, ns, rfl, _⟩ := h
    rfl
  obtain ⟨p, c, ns, rfl, ⟨dx, lz, hp, hl⟩, hz, q⟩ := h
  unfold r_Row_borders
  repeat walk_at "v"
  refine ⟨szr rfl, fun b nb => ?_⟩
  have u1 := same_upd (o := .lst [.int 0]) nb
  have hb : (upd H b (.lst [.int 0])) b = some (.lst (((List.range 1).map fun k => bo ns k).map V.int)) := upd_same
  have bl : lz ≠ b := fun e => by rw [← e, hl] at nb; cases nb
  generalize upd H b (.lst [.int 0]) = H1 at u1 hb ⊢
  repeat walk_at "v"
  refine s_forL ?_
  repeat walk_at "v"
  refine atr_fld C (u1 _ _ hp) (c_Row T) (n_Row_sizes T) (v := .ref lz) (by kernel_rfl) ?_
  refine it_l C (.of (u1 _ _ hl)) ?_
  refine lp_list (xs := ns.map V.int) (fun i σ H' => ∃ o2, σ = [some (.ref p), some (.ref b), o2] ∧ SameX b H1 H' ∧ Same H H' ∧ H' b = some (.lst (((List.range (i + 1)).map fun k => bo ns k).map V.int))) ⟨_, rfl, SameX.refl, u1, hb⟩ ?_ ?_ ?_
  · rintro i σ H' _ ⟨_, rfl, sx, _, _⟩
    exact .of (sx _ _ bl (u1 _ _ hl))
  · rintro i x σ H' hx ⟨o2, rfl, sx, sH, hb'⟩
    rw [List.getElem?_map] at hx
    obtain ⟨z, ez, rfl⟩ : ∃ z, ns[i]? = some z ∧ V.int z = x := by
      cases q : ns[i]? with
      | none => rw [q] at hx; cases hx
      | some z => rw [q] at hx; cases hx; exact ⟨z, rfl, rfl⟩
    obtain ⟨hi, ei⟩ := List.getElem?_eq_some_iff.mp ez
    repeat walk_at "v"
    refine ⟨_, mth_append C (.of hb'), ?_⟩
    repeat walk_at "v"
    refine ix_l C (v := .int (bo ns i)) (.of hb') (at_last (by rw [List.range_succ, List.map_append, List.map_append]; simp)) ?_
    repeat walk_at "v"
    refine app_m hb' (by rw [List.length_map, List.length_map, List.length_range]; exact Nat.lt_of_le_of_lt (by omega : i + 1 ≤ 50000) (by decide)) ?_
    refine ⟨_, rfl, fun c o nc ec => ?_, fun c o ec => ?_, ?_⟩
    · rw [upd_ne nc]
      exact sx _ _ nc ec
    · rw [upd_ne (ne_of_none ec nb)]
      exact sH _ _ ec
    · rw [List.range_succ (n := i + 1), List.map_append, List.map_append, upd_same]
      show _ = some (HO.lst (_ ++ [V.int (bo ns (i + 1))]))
      rw [bo_succ hi, ei]
  · rintro σ H' ⟨o2, rfl, sx, sH, hb'⟩
    repeat walk_at "v"
    rw [List.length_map] at hb'
    exact q b H' nb sH hb'
end

section
variable {P : Program} {w : World} {K : PySem.W.Frag} {mg : Str → Option Value} {base : Heap}
/-- the flips of a found plan, in the heap -/
def PlanAt (K : PySem.W.Frag) (H : Hp) (b : Addr) (ps : List (Int × Int)) : Prop := ∃ fs : List Addr, H b = some (.lst (fs.map V.ref)) ∧ fs.length = ps.length ∧ ∀ (k : Nat) f p, fs[k]? = some f → ps[k]? = some p → FlipAt K H f p.1 p.2 ∧ 0 ≤ p.1 ∧ p.1 < p.2 ∧ f ≠ b
theorem PlanAt.same {H H' : Hp} {b : Addr} {ps : List (Int × Int)} (h : PlanAt K H b ps) (s : Same H H') : PlanAt K H' b ps :=
  let ⟨fs, a, l, q⟩ := h
  ⟨fs, s _ _ a, l, fun k f p e1 e2 => let ⟨x, y⟩ := q k f p e1 e2; ⟨x.same s, y⟩⟩
end

section
/-! ### plain: the flips of each kind -/
/-- by the borders' numbers -/
def fK (r : Nat) : Nat → List (Nat × Nat)
  | 0 => (List.range (r - 1)).flatMap fun f => (List.range ((r - (f + 2)) / 2)).map fun t => (f + 1, f + 3 + 2 * t)
  | 1 => (List.range ((r - 1) / 2)).map fun t => (0, 2 + 2 * t)
  | 2 => (List.range ((r - 1) / 2)).map fun t => (r - (2 + 2 * t), r)
  | _ => [(0, r)]
theorem mem_fK0 {r a b : Nat} : (a, b) ∈ fK r 0 ↔ 1 ≤ a ∧ a + 2 ≤ b ∧ b < r ∧ (b - a) % 2 = 0 := by
  show (a, b) ∈ (List.range (r - 1)).flatMap _ ↔ _
  simp only [List.mem_flatMap, List.mem_map, List.mem_range, Prod.mk.injEq]
  constructor
  · rintro ⟨f, hf, t, ht, rfl, rfl⟩
    omega
  · rintro ⟨h1, h2, h3, h4⟩
    exact ⟨a - 1, by omega, (b - a - 2) / 2, by omega, by omega, by omega⟩
theorem mem_fK1 {r a b : Nat} : (a, b) ∈ fK r 1 ↔ a = 0 ∧ 2 ≤ b ∧ b < r ∧ b % 2 = 0 := by
  show (a, b) ∈ (List.range ((r - 1) / 2)).map _ ↔ _
  simp only [List.mem_map, List.mem_range, Prod.mk.injEq]
  constructor
  · rintro ⟨t, ht, rfl, rfl⟩
    omega
  · rintro ⟨h1, h2, h3, h4⟩
    exact ⟨(b - 2) / 2, by omega, by omega, by omega⟩
theorem mem_fK2 {r a b : Nat} : (a, b) ∈ fK r 2 ↔ b = r ∧ 1 ≤ a ∧ a + 2 ≤ r ∧ (r - a) % 2 = 0 := by
  show (a, b) ∈ (List.range ((r - 1) / 2)).map _ ↔ _
  simp only [List.mem_map, List.mem_range, Prod.mk.injEq]
  constructor
  · rintro ⟨t, ht, rfl, rfl⟩
    omega
  · rintro ⟨h1, h2, h3, h4⟩
    exact ⟨(r - a - 2) / 2, by omega, by omega, by omega⟩
theorem mem_fK3 {r a b : Nat} : (a, b) ∈ fK r 3 ↔ a = 0 ∧ b = r := by
  show (a, b) ∈ [(0, r)] ↔ _
  simp
def prB (ns : List Int) (p : Nat × Nat) : Int × Int := (bo ns p.1, bo ns p.2)
def kfl (ns : List Int) (k : Nat) : List (Int × Int) := (fK ns.length k).map (prB ns)
def bestF (ns : List Int) (c : Int) (g : Nat) (s : Bool) : List (Int × Int) := (bestK ns.length c g s).flatMap (kfl ns)
theorem bd_par {c : Int} (hc : c = 0 ∨ c = 1) {a b : Nat} (h : a % 2 = b % 2) : bd (alt c a) (alt c b) = 0 := by
  unfold bd
  rw [alt_mod hc, alt_mod hc, if_pos (by omega)]
theorem bd_odd {c : Int} (hc : c = 0 ∨ c = 1) {a b : Nat} (h : a % 2 ≠ b % 2) : bd (alt c a) (alt c b) = 1 := by
  unfold bd
  rw [alt_mod hc, alt_mod hc, if_neg (by omega)]
/-- where such a flip lies -/
theorem pair_ok {c : Int} {ns : List Int} (x : Nf c ns) {a b : Nat} (hab : a < b) (hb : b ≤ ns.length) : 0 ≤ bo ns a ∧ bo ns a < bo ns b ∧ bo ns b ≤ ns.sum ∧ (0 < bo ns a ↔ 0 < a) ∧ (bo ns b < ns.sum ↔ b < ns.length) := by
  have all := bo_all ns (Nat.le_refl _)
  have n0 := bo_nn x.hp a
  have n1 := bo_lt x.hp hab hb
  have n2 := bo_le x.hp hb (Nat.le_refl _)
  refine ⟨n0, n1, by omega, ⟨fun h => ?_, fun h => ?_⟩, ⟨fun h => ?_, fun h => ?_⟩⟩
  · rcases Nat.eq_zero_or_pos a with rfl | q
    · rw [bo_0] at h
      exact absurd h (by decide)
    · exact q
  · have := bo_lt x.hp h (by omega : a ≤ ns.length)
    rw [bo_0] at this
    exact this
  · rcases Nat.lt_or_ge b ns.length with q | q
    · exact q
    · have : b = ns.length := by omega
      subst this
      omega
  · have := bo_lt x.hp h (Nat.le_refl _)
    omega
/-- how many runs a flip between borders leaves -/
theorem pair_runs {c : Int} {ns : List Int} (x : Nf c ns) {a b : Nat} (hab : a < b) (hb : b ≤ ns.length) :
    (flipR c ns (bo ns a) (bo ns b)).2.length + (if 0 < a then 1 else 0) + (if b < ns.length then 1 else 0) = ns.length + (if 0 < a then (if (b - a) % 2 = 0 then 0 else 1) else 0) + (if b < ns.length then (if (b - a) % 2 = 0 then 0 else 1) else 0) := by
  obtain ⟨p0, p1, p2, e1, e2⟩ := pair_ok x hab hb
  have R := runs_chg x p0 p1 p2
  have g2 : (ex c ns).getD (bo ns a).toNat 0 = alt c a := ex_bo x (by omega)
  have g3 : (ex c ns).getD ((bo ns b).toNat - 1) 0 = alt c (b - 1) := ex_bo1 x (by omega) hb
  simp only [e1, e2, g2, g3] at R
  have r1 : 0 < a → (ex c ns).getD ((bo ns a).toNat - 1) 0 = alt c (a - 1) := fun h => ex_bo1 x h (by omega)
  have r4 : b < ns.length → (ex c ns).getD (bo ns b).toNat 0 = alt c b := fun h => ex_bo x h
  have z1 : (if 0 < a then bd ((ex c ns).getD ((bo ns a).toNat - 1) 0) (alt c a) else 0) = if 0 < a then 1 else 0 := by
    split
    · rename_i h
      rw [r1 h, bd_odd x.hc (by omega)]
    · rfl
  have z2 : (if b < ns.length then bd (alt c (b - 1)) ((ex c ns).getD (bo ns b).toNat 0) else 0) = if b < ns.length then 1 else 0 := by
    split
    · rename_i h
      rw [r4 h, bd_odd x.hc (by omega)]
    · rfl
  have z3 : (if 0 < a then bd ((ex c ns).getD ((bo ns a).toNat - 1) 0) (alt c (b - 1)) else 0) = if 0 < a then (if (b - a) % 2 = 0 then 0 else 1) else 0 := by
    split
    · rename_i h
      rw [r1 h]
      split
      · rw [bd_par x.hc (by omega)]
      · rw [bd_odd x.hc (by omega)]
    · rfl
  have z4 : (if b < ns.length then bd (alt c a) ((ex c ns).getD (bo ns b).toNat 0) else 0) = if b < ns.length then (if (b - a) % 2 = 0 then 0 else 1) else 0 := by
    split
    · rename_i h
      rw [r4 h]
      split
      · rw [bd_par x.hc (by omega)]
      · rw [bd_odd x.hc (by omega)]
    · rfl
  rw [z1, z2, z3, z4] at R
  exact R
/-- a flip of a kind: where it lies, and its kind's state -/
theorem fk_ok {c : Int} {ns : List Int} (x : Nf c ns) {k a b : Nat} (hk : k < 4) (hn : 0 < numK ns.length k) (h : (a, b) ∈ fK ns.length k) : a < b ∧ b ≤ ns.length ∧ (k = 0 → 0 < a ∧ b < ns.length) ∧ (k = 1 → a = 0 ∧ b < ns.length) ∧ (k = 2 → 0 < a ∧ b = ns.length) ∧ (k = 3 → a = 0 ∧ b = ns.length) ∧ (k < 3 → (b - a) % 2 = 0) := by
  have c4' : k = 0 ∨ k = 1 ∨ k = 2 ∨ k = 3 := by omega
  rcases c4' with rfl | rfl | rfl | rfl
  · obtain ⟨h1, h2, h3, h4⟩ := mem_fK0.mp h
    refine ⟨by omega, by omega, fun _ => ⟨by omega, h3⟩, (fun z => nomatch z), (fun z => nomatch z), (fun z => nomatch z), fun _ => h4⟩
  · obtain ⟨h1, h2, h3, h4⟩ := mem_fK1.mp h
    refine ⟨by omega, by omega, (fun z => nomatch z), fun _ => ⟨h1, h3⟩, (fun z => nomatch z), (fun z => nomatch z), fun _ => by omega⟩
  · obtain ⟨h1, h2, h3, h4⟩ := mem_fK2.mp h
    refine ⟨by omega, by omega, (fun z => nomatch z), (fun z => nomatch z), fun _ => ⟨by omega, h1⟩, (fun z => nomatch z), fun _ => by omega⟩
  · obtain ⟨h1, h2⟩ := mem_fK3.mp h
    have := (num3 (by omega)).mp hn
    refine ⟨by omega, by omega, (fun z => nomatch z), (fun z => nomatch z), (fun z => nomatch z), fun _ => ⟨h1, h2⟩, fun z => absurd z (by decide)⟩
theorem fk_state {c : Int} {ns : List Int} (x : Nf c ns) {k a b : Nat} (hk : k < 4) (hn : 0 < numK ns.length k) (h : (a, b) ∈ fK ns.length k) :
    (((flipR c ns (bo ns a) (bo ns b)).2.length : Int), (flipR c ns (bo ns a) (bo ns b)).1) = stK ns.length c k := by
  obtain ⟨hab, hb, k0, k1, k2, k3, kp⟩ := fk_ok x hk hn h
  obtain ⟨p0, p1, p2, e1, e2⟩ := pair_ok x hab hb
  have T := turns_of x p0 p1 p2
  have R := pair_runs x hab hb
  have all := bo_all ns (Nat.le_refl _)
  have c4' : k = 0 ∨ k = 1 ∨ k = 2 ∨ k = 3 := by omega
  rcases c4' with rfl | rfl | rfl | rfl
  · obtain ⟨ha, hb'⟩ := k0 rfl
    have hp := kp (by decide)
    obtain ⟨_, m2⟩ := T.m (e1.mpr ha) (e2.mpr hb')
    simp only [ha, hb', hp, Nat.lt_irrefl, if_true, if_false] at R
    show (_, _) = ((ns.length : Int) - 2, c)
    rw [m2]
    congr 1
    omega
  · obtain ⟨ha, hb'⟩ := k1 rfl
    have hp := kp (by decide)
    subst ha
    obtain ⟨_, m2⟩ := T.l rfl (e2.mpr hb')
    simp only [hb', hp, Nat.lt_irrefl, if_true, if_false] at R
    have hb1 := T.b
    have hb2 := T.b'
    show (_, _) = ((ns.length : Int) - 1, 1 - c)
    congr 1
    · omega
    · omega
  · obtain ⟨ha, hb'⟩ := k2 rfl
    have hp := kp (by decide)
    subst hb'
    obtain ⟨_, m2⟩ := T.z (e1.mpr ha) all
    simp only [ha, hp, Nat.lt_irrefl, if_true, if_false] at R
    show (_, _) = ((ns.length : Int) - 1, c)
    rw [m2]
    congr 1
    omega
  · obtain ⟨ha, hb'⟩ := k3 rfl
    subst ha hb'
    obtain ⟨w1, w2⟩ := T.w rfl all
    show (_, _) = ((ns.length : Int), (c + ns.length - 1) % 2)
    rw [w1, w2]
theorem mem_bestF {ns : List Int} {c : Int} {g : Nat} {s : Bool} {p : Int × Int} : p ∈ bestF ns c g s ↔ ∃ k a b, k ∈ bestK ns.length c g s ∧ (a, b) ∈ fK ns.length k ∧ p = (bo ns a, bo ns b) := by
  unfold bestF kfl
  simp only [List.mem_flatMap, List.mem_map, Prod.exists]
  constructor
  · rintro ⟨k, hk, a, b, h, e⟩
    exact ⟨k, a, b, hk, h, e.symm⟩
  · rintro ⟨k, a, b, hk, h, e⟩
    exact ⟨k, hk, a, b, h, e.symm⟩
theorem kindsG_l4 {g k : Nat} (h : k ∈ kindsG g) : k < 4 := by
  unfold kindsG at h
  split at h <;> simp at h <;> omega
/-- a best flip: it lies in the row, is allowed, and lowers the cost -/
theorem bestF_ok {c : Int} {ns : List Int} (x : Nf c ns) {g : Nat} (hg : g < 3) {s : Bool} {p : Int × Int} (h : p ∈ bestF ns c g s) :
    0 ≤ p.1 ∧ p.1 < p.2 ∧ p.2 ≤ ns.sum ∧ okG g p.1 p.2 ns.sum ∧ cN (flipR c ns p.1 p.2).2.length (flipR c ns p.1 p.2).1 g s < cN ns.length c g s := by
  obtain ⟨k, a, b, hk, hf, rfl⟩ := mem_bestF.mp h
  obtain ⟨kg, kn, kc⟩ := mem_bestK.mp hk
  have k4 := kindsG_l4 kg
  obtain ⟨hab, hb, k0, k1, k2, k3, kp⟩ := fk_ok x k4 kn hf
  obtain ⟨p0, p1, p2, e1, e2⟩ := pair_ok x hab hb
  have st := fk_state x k4 kn hf
  have all := bo_all ns (Nat.le_refl _)
  refine ⟨p0, p1, p2, ?_, ?_⟩
  · unfold okG
    show g = 2 ∨ bo ns a = 0 ∨ (g = 1 ∧ bo ns b = ns.sum)
    have c4' : k = 0 ∨ k = 1 ∨ k = 2 ∨ k = 3 := by omega
    have hg' : g = 0 ∨ g = 1 ∨ g = 2 := by omega
    rcases c4' with rfl | rfl | rfl | rfl
    · have : g = 2 := by
        rcases hg' with rfl | rfl | rfl
        · simp [kindsG] at kg
        · simp [kindsG] at kg
        · rfl
      exact .inl this
    · rw [(k1 rfl).1]
      exact .inr (.inl rfl)
    · have : g = 1 ∨ g = 2 := by
        rcases hg' with rfl | rfl | rfl
        · simp [kindsG] at kg
        · exact .inl rfl
        · exact .inr rfl
      rcases this with q | q
      · rw [(k2 rfl).2]
        exact .inr (.inr ⟨q, all⟩)
      · exact .inl q
    · rw [(k3 rfl).1]
      exact .inr (.inl rfl)
  · have e1 : ((flipR c ns (bo ns a) (bo ns b)).2.length : Int) = (stK ns.length c k).1 := by rw [← st]
    have e2 : (flipR c ns (bo ns a) (bo ns b)).1 = (stK ns.length c k).2 := by rw [← st]
    show cN (flipR c ns (bo ns a) (bo ns b)).2.length (flipR c ns (bo ns a) (bo ns b)).1 g s < _
    rw [e1, e2]
    exact kc
/-- there is one while the row has not the goal -/
theorem bestF_some {c : Int} {ns : List Int} (x : Nf c ns) {g : Nat} (hg : g < 3) {s : Bool} (h : 0 < cN ns.length c g s) : bestF ns c g s ≠ [] := by
  have b := best_some x.hc hg h
  cases e : bestK ns.length c g s with
  | nil => exact absurd e b
  | cons k ks =>
    have hk : k ∈ bestK ns.length c g s := by rw [e]; exact List.mem_cons_self
    obtain ⟨kg, kn, kc⟩ := mem_bestK.mp hk
    have k4 := kindsG_l4 kg
    have ne : ∃ a b, (a, b) ∈ fK ns.length k := by
      have c4' : k = 0 ∨ k = 1 ∨ k = 2 ∨ k = 3 := by omega
      rcases c4' with rfl | rfl | rfl | rfl
      · have := num0.mp kn
        exact ⟨1, 3, mem_fK0.mpr ⟨by decide, by decide, by omega, by decide⟩⟩
      · have := (num1 (by omega)).mp kn
        exact ⟨0, 2, mem_fK1.mpr ⟨rfl, by decide, by omega, by decide⟩⟩
      · have := (num2 (by omega)).mp kn
        exact ⟨ns.length - 2, ns.length, mem_fK2.mpr ⟨rfl, by omega, by omega, by omega⟩⟩
      · exact ⟨0, ns.length, mem_fK3.mpr ⟨rfl, rfl⟩⟩
    obtain ⟨a, b, hf⟩ := ne
    intro z
    have := mem_bestF.mpr ⟨k, a, b, hk, hf, rfl⟩
    rw [z] at this
    cases this
/-- the numbers by kind -/
def numS (r c : Int) (g : Nat) (s : Bool) : Int := ((bestK r c g s).map (numK r)).sum
theorem numK_nn {r : Int} (h : 0 ≤ r) (k : Nat) : 0 ≤ numK r k := by
  match k with
  | 0 =>
    show 0 ≤ if 2 ≤ r then (r - 2) * (r - 2) / 4 else 0
    split
    · have : 0 ≤ (r - 2) * (r - 2) := Int.mul_nonneg (by omega) (by omega)
      omega
    · exact Int.le_refl _
  | 1 =>
    show 0 ≤ if r = 0 then 0 else (r - 1) / 2
    split <;> omega
  | 2 =>
    show 0 ≤ if r = 0 then 0 else (r - 1) / 2
    split <;> omega
  | _ + 3 =>
    show 0 ≤ if r = 0 then 0 else 1
    split <;> omega
theorem sum_filt {l : List Nat} {p : Nat → Bool} {f : Nat → Int} (h : ∀ k, 0 ≤ f k) : ((l.filter p).map f).sum ≤ (l.map f).sum := by
  induction l with
  | nil => exact Int.le_refl _
  | cons a l ih =>
    have := h a
    rw [List.filter_cons]
    split
    · simp only [List.map_cons, List.sum_cons]
      omega
    · simp only [List.map_cons, List.sum_cons]
      omega
theorem numS_le {r c : Int} {g : Nat} {s : Bool} (h0 : 0 ≤ r) (h : r ≤ 200) : numS r c g s ≤ 20000 := by
  have nn := numK_nn h0
  have i0 : numK r 0 ≤ 9801 := by
    show (if 2 ≤ r then (r - 2) * (r - 2) / 4 else 0) ≤ 9801
    split
    · have : (r - 2) * (r - 2) ≤ 198 * 198 := Int.mul_le_mul (by omega) (by omega) (by omega) (by decide)
      omega
    · decide
  have i1 : numK r 1 ≤ 100 := by
    show (if r = 0 then 0 else (r - 1) / 2) ≤ 100
    split <;> omega
  have i2 : numK r 2 ≤ 100 := i1
  have i3 : numK r 3 ≤ 1 := by
    show (if r = 0 then 0 else 1) ≤ (1 : Int)
    split <;> omega
  have n0 := nn 0
  have n1 := nn 1
  have n2 := nn 2
  have n3 := nn 3
  have le : numS r c g s ≤ ((kindsG g).map (numK r)).sum := sum_filt nn
  have : ((kindsG g).map (numK r)).sum ≤ 20000 := by
    unfold kindsG
    split <;> simp <;> omega
  omega
end

section
/-! ### plain: every flip that lowers the cost is listed -/
theorem find_run {ns : List Int} : ∀ n, n ≤ ns.length → ∀ i : Int, 0 ≤ i → i < bo ns n → ∃ k, k < n ∧ bo ns k ≤ i ∧ i < bo ns (k + 1)
  | 0, _, i, h0, h1 => by
    rw [bo_0] at h1
    omega
  | n + 1, hn, i, h0, h1 => by
    by_cases q : i < bo ns n
    · obtain ⟨k, a, b, c⟩ := find_run n (by omega) i h0 q
      exact ⟨k, by omega, b, c⟩
    · exact ⟨n, Nat.lt_succ_self n, by omega, h1⟩
theorem bd_le1 (a b : Int) : bd a b ≤ 1 := by
  unfold bd
  split <;> omega
theorem border_of {c : Int} {ns : List Int} (x : Nf c ns) {i : Int} (h0 : 0 < i) (h1 : i < ns.sum) (ne : bd ((ex c ns).getD (i.toNat - 1) 0) ((ex c ns).getD i.toNat 0) = 1) : ∃ a, 0 < a ∧ a < ns.length ∧ i = bo ns a := by
  obtain ⟨k, hk, l, u⟩ := find_run ns.length (Nat.le_refl _) i (by omega) (by rw [bo_all ns (Nat.le_refl _)]; exact h1)
  by_cases e : bo ns k = i
  · refine ⟨k, ?_, hk, e.symm⟩
    rcases Nat.eq_zero_or_pos k with z | z
    · rw [z, bo_0] at e
      omega
    · exact z
  · exfalso
    have nn := bo_nn x.hp k
    have e1 : (ex c ns).getD i.toNat 0 = alt c k := ex_at x.hp hk (by omega) (by omega)
    have e2 : (ex c ns).getD (i.toNat - 1) 0 = alt c k := ex_at x.hp hk (by omega) (by omega)
    rw [e1, e2, bd_par x.hc rfl] at ne
    cases ne
theorem bo_inj {ns : List Int} (hp : ∀ n ∈ ns, 1 ≤ n) {a b : Nat} (ha : a ≤ ns.length) (hb : b ≤ ns.length) (h : bo ns a = bo ns b) : a = b := by
  rcases Nat.lt_trichotomy a b with q | q | q
  · have := bo_lt hp q hb
    omega
  · exact q
  · have := bo_lt hp q ha
    omega
theorem bo_lt_iff {ns : List Int} (hp : ∀ n ∈ ns, 1 ≤ n) {a b : Nat} (ha : a ≤ ns.length) (hb : b ≤ ns.length) (h : bo ns a < bo ns b) : a < b := by
  rcases Nat.lt_or_ge a b with q | q
  · exact q
  · have := bo_le hp q ha
    omega
theorem bestF_complete {c : Int} {ns : List Int} (x : Nf c ns) {g : Nat} (hg : g < 3) {s : Bool} {i j : Int} (h0 : 0 ≤ i) (h1 : i < j) (h2 : j ≤ ns.sum) (og : okG g i j ns.sum)
    (lt : cN (flipR c ns i j).2.length (flipR c ns i j).1 g s < cN ns.length c g s) : (i, j) ∈ bestF ns c g s := by
  obtain ⟨k, ek, hk⟩ := (best_iff (s := s) (turns_of x h0 h1 h2) hg og).mpr lt
  have all := bo_all ns (Nat.le_refl _)
  have R := runs_chg x h0 h1 h2
  have b1 := bd_le1 ((ex c ns).getD (i.toNat - 1) 0) ((ex c ns).getD i.toNat 0)
  have b2 := bd_le1 ((ex c ns).getD (j.toNat - 1) 0) ((ex c ns).getD j.toNat 0)
  have n0 : ns.length ≠ 0 := fun z => by
    have : ns = [] := List.eq_nil_of_length_eq_zero z
    rw [this] at h2
    have : j ≤ 0 := h2
    omega
  refine mem_bestF.mpr ?_
  unfold kindN at ek
  have cs : (i = 0 ∧ j = ns.sum) ∨ (0 < i ∧ j < ns.sum) ∨ (i = 0 ∧ j < ns.sum) ∨ (0 < i ∧ j = ns.sum) := by omega
  rcases cs with ⟨a1, a2⟩ | ⟨a1, a2⟩ | ⟨a1, a2⟩ | ⟨a1, a2⟩
  · rw [if_pos ⟨a1, a2⟩] at ek
    cases ek
    exact ⟨3, 0, ns.length, hk, mem_fK3.mpr ⟨rfl, rfl⟩, by rw [bo_0, all, a1, a2]⟩
  · rw [if_neg (by omega), if_pos ⟨a1, a2⟩] at ek
    split at ek
    · rename_i ch
      cases ek
      rw [if_pos a1, if_pos a2, if_pos a1, if_pos a2] at R
      obtain ⟨a, a0, al, ea⟩ := border_of x a1 (by omega) (by omega)
      obtain ⟨b, b0, bl, eb⟩ := border_of x (by omega) a2 (by omega)
      have ab : a < b := bo_lt_iff x.hp (by omega) (by omega) (by omega)
      subst ea eb
      have PR := pair_runs x ab (by omega)
      rw [if_pos a0, if_pos bl, if_pos a0, if_pos bl] at PR
      have ev : (b - a) % 2 = 0 := by
        by_cases z : (b - a) % 2 = 0
        · exact z
        · rw [if_neg z] at PR
          omega
      exact ⟨0, a, b, hk, mem_fK0.mpr ⟨by omega, by omega, bl, ev⟩, rfl⟩
    · cases ek
  · rw [if_neg (by omega), if_neg (by omega)] at ek
    split at ek
    · cases ek
    · rename_i ch
      first
        | rw [if_pos a1] at ek
        | skip
      cases ek
      subst a1
      simp only [Int.lt_irrefl, a2, if_true, if_false] at R
      obtain ⟨b, b0, bl, eb⟩ := border_of x (by omega) a2 (by omega)
      subst eb
      have PR := pair_runs x b0 (by omega)
      rw [bo_0] at PR
      simp only [Nat.lt_irrefl, if_false, bl, if_true] at PR
      have ev : b % 2 = 0 := by
        by_cases z : (b - 0) % 2 = 0
        · omega
        · rw [if_neg z] at PR
          omega
      exact ⟨1, 0, b, hk, mem_fK1.mpr ⟨rfl, by omega, bl, ev⟩, by rw [bo_0]⟩
  · rw [if_neg (by omega), if_neg (by omega)] at ek
    split at ek
    · cases ek
    · rename_i ch
      first
        | rw [if_neg (by omega : ¬ i = 0)] at ek
        | skip
      cases ek
      have a3 : ¬ j < ns.sum := by omega
      simp only [a1, a3, if_true, if_false] at R
      obtain ⟨a, a0, al, ea⟩ := border_of x a1 (by omega) (by omega)
      subst ea
      have PR := pair_runs x al (Nat.le_refl _)
      rw [all, ← a2] at PR
      simp only [Nat.lt_irrefl, if_false, a0, if_true] at PR
      have ev : (ns.length - a) % 2 = 0 := by
        by_cases z : (ns.length - a) % 2 = 0
        · exact z
        · rw [if_neg z] at PR
          omega
      exact ⟨2, a, ns.length, hk, mem_fK2.mpr ⟨rfl, by omega, by omega, ev⟩, by rw [all, a2]⟩
/-! how many there are -/
theorem half_sum : ∀ m : Nat, ((List.range (m + 1)).map fun f => (m - f) / 2).sum = m * m / 4
  | 0 => rfl
  | m + 1 => by
    rw [List.range_succ_eq_map, List.map_cons, List.map_map, List.sum_cons]
    have e : ((List.range (m + 1)).map ((fun f => (m + 1 - f) / 2) ∘ Nat.succ)) = (List.range (m + 1)).map fun f => (m - f) / 2 := by
      refine List.map_congr_left fun f _ => ?_
      show (m + 1 - (f + 1)) / 2 = _
      rw [Nat.add_sub_add_right]
    rw [e, half_sum m, Nat.sub_zero]
    have key : ∀ m : Nat, (m + 1) / 2 + m * m / 4 = (m + 1) * (m + 1) / 4 := fun m => by
      obtain ⟨t, rfl | rfl⟩ : ∃ t, m = 2 * t ∨ m = 2 * t + 1 := ⟨m / 2, by omega⟩
      · have e1 : 2 * t * (2 * t) = 4 * (t * t) := by rw [Nat.mul_mul_mul_comm]
        have e2 : (2 * t + 1) * (2 * t + 1) = 4 * (t * t) + 4 * t + 1 := by rw [Nat.add_mul, Nat.mul_add, e1]; omega
        rw [e1, e2]
        omega
      · have e1 : 2 * t * (2 * t) = 4 * (t * t) := by rw [Nat.mul_mul_mul_comm]
        have e2 : (2 * t + 1) * (2 * t + 1) = 4 * (t * t) + 4 * t + 1 := by rw [Nat.add_mul, Nat.mul_add, e1]; omega
        have e3 : (2 * t + 1 + 1) * (2 * t + 1 + 1) = 4 * (t * t) + 8 * t + 4 := by
          rw [show 2 * t + 1 + 1 = 2 * t + 2 from rfl, Nat.add_mul, Nat.mul_add, e1]
          omega
        rw [e2, e3]
        omega
    exact key m
theorem fK_len {r k : Nat} (hk : k < 4) (hr : 0 < numK r k) : ((fK r k).length : Int) = numK r k := by
  have c4' : k = 0 ∨ k = 1 ∨ k = 2 ∨ k = 3 := by omega
  rcases c4' with rfl | rfl | rfl | rfl
  · have h4 := num0.mp hr
    obtain ⟨m, rfl⟩ : ∃ m, r = m + 2 := ⟨r - 2, by omega⟩
    have e : (fK (m + 2) 0).length = ((List.range (m + 1)).map fun f => (m - f) / 2).sum := by
      show ((List.range (m + 2 - 1)).flatMap _).length = _
      rw [List.length_flatMap]
      congr 1
      refine List.map_congr_left fun f _ => ?_
      rw [List.length_map, List.length_range]
      congr 1
      omega
    rw [e, half_sum]
    show _ = if (2 : Int) ≤ ((m + 2 : Nat) : Int) then (((m + 2 : Nat) : Int) - 2) * (((m + 2 : Nat) : Int) - 2) / 4 else 0
    rw [if_pos (by omega), show ((m + 2 : Nat) : Int) - 2 = m from by omega]
    omega
  · have h3 := (num1 (by omega)).mp hr
    show (((List.range ((r - 1) / 2)).map _).length : Int) = if (r : Int) = 0 then 0 else ((r : Int) - 1) / 2
    rw [List.length_map, List.length_range, if_neg (by omega)]
    omega
  · have h3 := (num2 (by omega)).mp hr
    show (((List.range ((r - 1) / 2)).map _).length : Int) = if (r : Int) = 0 then 0 else ((r : Int) - 1) / 2
    rw [List.length_map, List.length_range, if_neg (by omega)]
    omega
  · have h1 := (num3 (by omega)).mp hr
    show (1 : Int) = if (r : Int) = 0 then 0 else 1
    rw [if_neg (by omega)]
theorem bestF_length (ns : List Int) (c : Int) (g : Nat) (s : Bool) : ((bestF ns c g s).length : Int) = numS ns.length c g s := by
  unfold bestF numS
  have h : ∀ k ∈ bestK ns.length c g s, k < 4 ∧ 0 < numK ns.length k := fun k hk => ⟨kindsG_l4 (mem_bestK.mp hk).1, (mem_bestK.mp hk).2.1⟩
  revert h
  generalize bestK ns.length c g s = L
  intro h
  induction L with
  | nil => rfl
  | cons k L ih =>
    have hk := h k List.mem_cons_self
    rw [List.flatMap_cons, List.length_append, List.map_cons, List.sum_cons, ← ih fun m hm => h m (List.mem_cons_of_mem _ hm)]
    have : ((kfl ns k).length : Int) = numK ns.length k := by
      unfold kfl
      rw [List.length_map]
      exact fK_len hk.1 hk.2
    omega
/-! all different -/
theorem fK_nodup (r k : Nat) : (fK r k).Nodup := by
  match k with
  | 0 =>
    show ((List.range (r - 1)).flatMap _).Nodup
    unfold List.Nodup
    rw [List.pairwise_flatMap]
    refine ⟨fun f _ => ?_, ?_⟩
    · rw [List.pairwise_map]
      refine List.nodup_range.imp fun {a b} h e => h ?_
      have := congrArg Prod.snd e
      simp at this
      omega
    · refine List.nodup_range.imp fun {a b} h p hp q hq e => h ?_
      obtain ⟨t, _, rfl⟩ := List.mem_map.mp hp
      obtain ⟨u, _, rfl⟩ := List.mem_map.mp hq
      have := congrArg Prod.fst e
      simpa using this
  | 1 =>
    show ((List.range ((r - 1) / 2)).map _).Nodup
    unfold List.Nodup
    rw [List.pairwise_map]
    refine List.nodup_range.imp fun {a b} h e => h ?_
    have := congrArg Prod.snd e
    simp at this
    omega
  | 2 =>
    show ((List.range ((r - 1) / 2)).map _).Nodup
    have key : ∀ n, 2 * n ≤ r - 1 → ((List.range n).map fun t => (r - (2 + 2 * t), r)).Nodup := fun n hn => by
      induction n with
      | zero => exact List.nodup_nil
      | succ n ih =>
        rw [List.range_succ, List.map_append, List.nodup_append]
        refine ⟨ih (by omega), by simp, fun p hp q hq e => ?_⟩
        obtain ⟨t, ht, rfl⟩ := List.mem_map.mp hp
        have ht := List.mem_range.mp ht
        have hq : q = (r - (2 + 2 * n), r) := by simpa using hq
        rw [hq] at e
        have := congrArg Prod.fst e
        simp at this
        omega
    exact key _ (by omega)
  | _ + 3 => exact (by simp : [(0, r)].Nodup)
theorem bestF_nodup {c : Int} {ns : List Int} (x : Nf c ns) {g : Nat} (hg : g < 3) (s : Bool) : (bestF ns c g s).Nodup := by
  have ndK : (bestK ns.length c g s).Nodup := List.Nodup.sublist (l₂ := kindsG g) List.filter_sublist (by
    have : g = 0 ∨ g = 1 ∨ g = 2 := by omega
    rcases this with rfl | rfl | rfl <;> decide)
  have ok : ∀ k ∈ bestK ns.length c g s, k < 4 ∧ 0 < numK ns.length k := fun k hk => ⟨kindsG_l4 (mem_bestK.mp hk).1, (mem_bestK.mp hk).2.1⟩
  have inj : ∀ k ∈ bestK ns.length c g s, ∀ k' ∈ bestK ns.length c g s, ∀ p ∈ fK ns.length k, ∀ p' ∈ fK ns.length k', prB ns p = prB ns p' → p = p' := fun k hk k' hk' p hp p' hp' e => by
    obtain ⟨a, b⟩ := p
    obtain ⟨a', b'⟩ := p'
    obtain ⟨h1, h2, _⟩ := fk_ok x (ok k hk).1 (ok k hk).2 hp
    obtain ⟨h1', h2', _⟩ := fk_ok x (ok k' hk').1 (ok k' hk').2 hp'
    have e1 : bo ns a = bo ns a' := congrArg Prod.fst e
    have e2 : bo ns b = bo ns b' := congrArg Prod.snd e
    rw [bo_inj x.hp (by omega) (by omega) e1, bo_inj x.hp h2 h2' e2]
  unfold bestF List.Nodup
  rw [List.pairwise_flatMap]
  refine ⟨fun k hk => ?_, ?_⟩
  · unfold kfl
    rw [List.pairwise_map]
    refine List.pairwise_iff_forall_sublist.mpr fun {a b} sub e => ?_
    exact (List.pairwise_iff_forall_sublist.mp (fK_nodup ns.length k) sub) (inj k hk k hk a (sub.subset List.mem_cons_self) b (sub.subset (List.mem_cons_of_mem _ List.mem_cons_self)) e)
  · refine List.pairwise_iff_forall_sublist.mpr fun {k k'} sub p hp q hq e => ?_
    have hk := sub.subset List.mem_cons_self
    have hk' := sub.subset (List.mem_cons_of_mem _ List.mem_cons_self)
    have ne : k ≠ k' := List.pairwise_iff_forall_sublist.mp ndK sub
    unfold kfl at hp hq
    obtain ⟨⟨a, b⟩, hf, rfl⟩ := List.mem_map.mp hp
    obtain ⟨p', hf', rfl⟩ := List.mem_map.mp hq
    have := inj k hk k' hk' _ hf _ hf' e
    subst this
    obtain ⟨h1, h2, z0, z1, z2, z3, _⟩ := fk_ok x (ok k hk).1 (ok k hk).2 hf
    obtain ⟨_, _, y0, y1, y2, y3, _⟩ := fk_ok x (ok k' hk').1 (ok k' hk').2 hf'
    have l1 := (ok k hk).1
    have l2 := (ok k' hk').1
    have c1 : k = 0 ∨ k = 1 ∨ k = 2 ∨ k = 3 := by omega
    have c2 : k' = 0 ∨ k' = 1 ∨ k' = 2 ∨ k' = 3 := by omega
    rcases c1 with rfl | rfl | rfl | rfl <;> rcases c2 with rfl | rfl | rfl | rfl <;> first
      | exact ne rfl
      | (have := z0 rfl; have := y1 rfl; omega)
      | (have := z0 rfl; have := y2 rfl; omega)
      | (have := z0 rfl; have := y3 rfl; omega)
      | (have := z1 rfl; have := y0 rfl; omega)
      | (have := z1 rfl; have := y2 rfl; omega)
      | (have := z1 rfl; have := y3 rfl; omega)
      | (have := z2 rfl; have := y0 rfl; omega)
      | (have := z2 rfl; have := y1 rfl; omega)
      | (have := z2 rfl; have := y3 rfl; omega)
      | (have := z3 rfl; have := y0 rfl; omega)
      | (have := z3 rfl; have := y1 rfl; omega)
      | (have := z3 rfl; have := y2 rfl; omega)
end

section
variable {P : Program} {w : World} {K : PySem.W.Frag} {mg : Str → Option Value} {base : Heap}
/-! ### the best flips, listed -/
def cntD (r c : Int) (g : Nat) (s : Bool) : List (Key × V) := (bestK r c g s).map fun k => (.inr (kname k), .int (numK r k))
theorem kname_inj {a b : Nat} (ha : a < 4) (hb : b < 4) (h : kname a = kname b) : a = b := by
  have e := kname_ne ha b hb
  rw [h, decide_eq_true rfl] at e
  exact of_decide_eq_true e.symm
theorem cntD_nodup (r c : Int) {g : Nat} (hg : g < 3) (s : Bool) : ((cntD r c g s).map Prod.fst).Nodup := by
  unfold cntD
  rw [List.map_map]
  have nd : (bestK r c g s).Nodup := List.Nodup.sublist (l₂ := kindsG g) List.filter_sublist (by rcases c3 hg with rfl | rfl | rfl <;> decide)
  have lt : ∀ k ∈ bestK r c g s, k < 4 := fun k hk => kindsG_l4 (mem_bestK.mp hk).1
  revert nd lt
  generalize bestK r c g s = l
  intro nd lt
  induction l with
  | nil => exact List.nodup_nil
  | cons a l ih =>
    obtain ⟨h1, h2⟩ := List.nodup_cons.mp nd
    rw [List.map_cons, List.nodup_cons]
    refine ⟨fun h => ?_, ih h2 fun k hk => lt k (List.mem_cons_of_mem _ hk)⟩
    obtain ⟨b, hb, e⟩ := List.mem_map.mp h
    have e' : kname b = kname a := by
      have := congrArg (fun z : Key => match z with | .inr t => t | .inl _ => ("" : Str)) e
      exact this
    have := kname_inj (lt b (List.mem_cons_of_mem _ hb)) (lt a List.mem_cons_self) e'
    subst this
    exact h1 hb
def spCountB (K : PySem.W.Frag) : Sp := fun vs H Q E => ∃ p c ns y z t u, vs = [.ref p, y, z] ∧ RowAt K H p c ns ∧ StrK K H y t ∧ StrK K H z u ∧ (WordsE K H y z E ∨
  ∃ g s, g < 3 ∧ y = .str (gname g) ∧ z = .str (oname s) ∧ ns.length ≤ 1000000 ∧ ∀ b H', H b = none → Same H H' → H' b = some (.dK (cntD ns.length c g s)) → Q (.ref b) H')
theorem ok_count_best (T : TX K mg) : FnS P w K mg base (He.ga K "count_best") 4 ["row", "game", "goal"] (spCountB K) := by
  refine mk_count_best T (fun vs H Q E h => ?_) (fun X vs H Q E C h => ?_)
  · obtain ⟨p, c, ns, y, z, t, u, rfl, _⟩ := h
    rfl
  obtain ⟨p, c, ns, y, z, t, u, rfl, hr, sy, sz', h⟩ := h
  unfold r_count_best
  repeat walk_at "v"
  rcases h with h | ⟨g, s, hg, rfl, rfl, hl, q⟩
  · exact words_e T C (by omega) sy sz' h
  refine words_ok T C (by omega) hg fun H1 s1 => ?_
  repeat walk_at "v"
  refine row_prop T C (by omega) (p_Row_runs T) (ok_Row_runs T) (hr.same s1) fun H2 s2' => ?_
  have s2 := s1.trans s2'
  repeat walk_at "v"
  refine cv_fn C (ok_numbers_by_kind T) (by omega) ⟨ns.length, rfl, by omega, by omega, fun d nd => ?_⟩
  have u3 := same_upd (o := .dK (numD ns.length)) nd
  have hd : (upd H2 d (.dK (numD ns.length))) d = some (.dK (numD ns.length)) := upd_same
  have s3 := s2.trans u3
  generalize upd H2 d (.dK (numD ns.length)) = H3 at hd s3 ⊢
  clear u3
  repeat walk_at "v"
  refine s_dcA C ?_
  repeat walk_at "v"
  refine row_prop T C (by omega) (p_Row_runs T) (ok_Row_runs T) (hr.same s3) fun H4 s4' => ?_
  have s4 := s3.trans s4'
  repeat walk_at "v"
  refine row_prop T C (by omega) (p_Row_first T) (ok_Row_first T) (hr.same s4) fun H5 s5' => ?_
  have s5 := s4.trans s5'
  repeat walk_at "v"
  refine cv_fn C (ok_best_kinds T) (by omega) ⟨_, c, g, s, rfl, hg, by omega, by omega, fun l H6 nl s6' hlk => ?_⟩
  have s6 := s5.trans s6'
  have hd6 := s6' _ _ (s5' _ _ (s4' _ _ hd))
  refine it_l C (.of hlk) ?_
  have ll : (bestK ns.length c g s).length ≤ 4 := by
    refine Nat.le_trans (List.length_filter_le _ _) ?_
    rcases c3 hg with rfl | rfl | rfl <;> decide
  refine dc_list (.of hlk) (cntD ns.length c g s) (by unfold cntD kvs; rw [List.length_map, List.length_map]) (by unfold kvs; rw [List.length_map]; exact Nat.lt_of_le_of_lt ll (by decide)) (cntD_nodup _ _ hg _) (fun i x pr H' R hx hp sm r => ?_) fun D H' nD sD hD => ?_
  · have ex : ∃ k, (bestK ns.length c g s)[i]? = some k ∧ V.str (kname k) = x ∧ pr = (.inr (kname k), .int (numK ns.length k)) := by
      unfold kvs at hx
      unfold cntD at hp
      rw [List.getElem?_map] at hx hp
      cases e : (bestK ns.length c g s)[i]? with
      | none => rw [e] at hx; cases hx
      | some k =>
        rw [e] at hx hp
        cases hx
        cases hp
        exact ⟨k, rfl, rfl, rfl⟩
    obtain ⟨k, ek, rfl, rfl⟩ := ex
    have k4 : k < 4 := kindsG_l4 (mem_bestK.mp (List.mem_of_getElem? ek)).1
    refine s_gname ⟨rfl, ?_⟩
    intro Y bk
    have CY := C.blk bk
    repeat walk_at "v"
    intro Y' bk'
    have CY' := C.blk bk'
    repeat walk_at "v"
    refine ix_d CY' (v := .int (numK ns.length k)) (.inl ⟨_, .inr (kname k), .inl (sm _ _ hd6), rfl, (numD_at _ k4).symm⟩) ?_
    exact r _ (Same.refl _)
  · repeat walk_at "v"
    exact q D H' (none_of s6 nD) (s6.trans sD) hD
end

section
variable {P : Program} {w : World} {K : PySem.W.Frag} {mg : Str → Option Value} {base : Heap}
theorem mth_ins {X : Cx} {W : WX} {k : Nat} (C : Ctx P w K mg base k X W) {a Cc dx g : Addr} {fs : List (Str × V)} {m : Str} {H : Hp} (h : H a = some (.ins Cc dx fs)) (c : Cls K Cc) (M : Meth K Cc m g) (l : fs.lookup m = none) : Mth X m (.ref a) H (.ref g) := by
  have hK := C.K
  subst hK
  exact .own rfl h c M l
end

section
variable {P : Program} {w : World} {K : PySem.W.Frag} {mg : Str → Option Value} {base : Heap}
/-! ### the flips of a kind, listed -/
theorem FlipAt.up {H : Hp} {b f : Addr} {o : HO} {i j : Int} (h : FlipAt K H f i j) (n : f ≠ b) : FlipAt K (upd H b o) f i j := let ⟨dx, a⟩ := h; ⟨dx, by rw [upd_ne n]; exact a⟩
theorem PlanAt.ne {H : Hp} {b b2 : Addr} {ps : List (Int × Int)} {xs : List V} (h : PlanAt K H b2 ps) (hb : H b = some (.lst xs)) {fs : List Addr} (e : H b2 = some (.lst (fs.map V.ref))) : ∀ f ∈ fs, f ≠ b := fun f hf => by
  obtain ⟨fs', a, l, q⟩ := h
  rw [a] at e
  have e' : fs'.map V.ref = fs.map V.ref := HO.lst.inj (Option.some.inj e)
  obtain ⟨i, hi⟩ := List.getElem?_of_mem hf
  have : (fs'.map V.ref)[i]? = some (.ref f) := by rw [e', List.getElem?_map, hi]; rfl
  rw [List.getElem?_map] at this
  cases h1 : fs'[i]? with
  | none => rw [h1] at this; cases this
  | some f' =>
    rw [h1] at this
    cases this
    have hl : i < ps.length := by rw [← l]; exact (List.getElem?_eq_some_iff.mp h1).1
    obtain ⟨⟨dx, x⟩, _⟩ := q i _ _ h1 (List.getElem?_eq_getElem hl)
    exact fun z => by rw [z, hb] at x; cases x
/-- two lists of flips, one behind the other -/
theorem PlanAt.app {H : Hp} {b b2 : Addr} {ps qs : List (Int × Int)} (h : PlanAt K H b ps) (h2 : PlanAt K H b2 qs) : ∃ fs gs : List Addr, H b = some (.lst (fs.map V.ref)) ∧ H b2 = some (.lst (gs.map V.ref)) ∧ fs.length = ps.length ∧ gs.length = qs.length ∧ PlanAt K (upd H b (.lst (fs.map V.ref ++ gs.map V.ref))) b (ps ++ qs) := by
  have h2' := h2
  obtain ⟨fs, a, l, q⟩ := h
  obtain ⟨gs, a2, l2, q2⟩ := h2
  refine ⟨fs, gs, a, a2, l, l2, fs ++ gs, by rw [upd_same, List.map_append], by rw [List.length_append, List.length_append, l, l2], fun k f p e1 e2 => ?_⟩
  by_cases hk : k < fs.length
  · rw [List.getElem?_append_left hk] at e1
    rw [List.getElem?_append_left (by rw [← l]; exact hk)] at e2
    obtain ⟨x, y, z, n⟩ := q k f p e1 e2
    exact ⟨x.up n, y, z, n⟩
  · rw [List.getElem?_append_right (by omega)] at e1
    rw [List.getElem?_append_right (by omega), ← l] at e2
    obtain ⟨x, y, z, _⟩ := q2 _ f p e1 e2
    have n := h2'.ne a a2 f (List.mem_of_getElem? e1)
    exact ⟨x.up n, y, z, n⟩
/-- one flip more -/
theorem PlanAt.snoc {H : Hp} {b f : Addr} {ps : List (Int × Int)} {p : Int × Int} (h : PlanAt K H b ps) (hf : FlipAt K H f p.1 p.2) (h0 : 0 ≤ p.1) (h1 : p.1 < p.2) : ∃ fs : List Addr, H b = some (.lst (fs.map V.ref)) ∧ fs.length = ps.length ∧ PlanAt K (upd H b (.lst (fs.map V.ref ++ [.ref f]))) b (ps ++ [p]) := by
  obtain ⟨fs, a, l, q⟩ := h
  have n : f ≠ b := fun z => by
    obtain ⟨dx, x⟩ := hf
    rw [z, a] at x
    cases x
  refine ⟨fs, a, l, fs ++ [f], by rw [upd_same, List.map_append]; rfl, by rw [List.length_append, List.length_append, l]; rfl, fun k f' p' e1 e2 => ?_⟩
  by_cases hk : k < fs.length
  · rw [List.getElem?_append_left hk] at e1
    rw [List.getElem?_append_left (by rw [← l]; exact hk)] at e2
    obtain ⟨x, y, z, n'⟩ := q k f' p' e1 e2
    exact ⟨x.up n', y, z, n'⟩
  · rw [List.getElem?_append_right (by omega)] at e1
    rw [List.getElem?_append_right (by omega), ← l] at e2
    obtain ⟨i, hi⟩ : ∃ i, k - fs.length = i := ⟨_, rfl⟩
    rw [hi] at e1 e2
    cases i with
    | zero =>
      cases e1
      cases e2
      exact ⟨hf.up n, h0, h1, n⟩
    | succ i =>
      simp at e1
def FlKi (K : PySem.W.Frag) (ps : List (Int × Int)) (H : Hp) (y : V) (i : Nat) : Prop := ∃ f p, ps[i]? = some p ∧ y = .ref f ∧ FlipAt K H f p.1 p.2
theorem FlKi.x {ps : List (Int × Int)} {H1 H2 : Hp} {D : Addr} {zs : List V} {y : V} {i : Nat} (hD : H1 D = some (.lst zs)) (s : SameX D H1 H2) (h : FlKi K ps H1 y i) : FlKi K ps H2 y i := by
  obtain ⟨f, p, e, rfl, dx, hf⟩ := h
  exact ⟨f, p, e, rfl, dx, s _ _ (fun z => by rw [z, hD] at hf; cases hf) hf⟩
theorem plan_of {H : Hp} {D : Addr} {ys : List V} {ps : List (Int × Int)} (hD : H D = some (.lst ys)) (hl : ys.length = ps.length) (h : ∀ i y, ys[i]? = some y → FlKi K ps H y i) (hp : ∀ p ∈ ps, 0 ≤ p.1 ∧ p.1 < p.2) : PlanAt K H D ps := by
  let un : V → Addr := fun v => match v with | .ref a => a | _ => 0
  have e : ys = (ys.map un).map V.ref := by
    rw [List.map_map]
    conv => lhs; rw [← List.map_id ys]
    refine List.map_congr_left fun y hy => ?_
    obtain ⟨i, hi⟩ := List.getElem?_of_mem hy
    obtain ⟨f, p, _, rfl, _⟩ := h i y hi
    rfl
  refine ⟨ys.map un, by rw [← e]; exact hD, by rw [List.length_map]; exact hl, fun k f p e1 e2 => ?_⟩
  rw [List.getElem?_map] at e1
  cases h1 : ys[k]? with
  | none => rw [h1] at e1; cases e1
  | some y =>
    rw [h1] at e1
    obtain ⟨f', p', e3, rfl, hf⟩ := h k y h1
    cases e1
    rw [e2] at e3
    cases e3
    have := hp p (List.mem_of_getElem? e2)
    exact ⟨hf, this.1, this.2, fun z => by
      obtain ⟨dx, hf⟩ := hf
      have z' : f' = D := z
      rw [z', hD] at hf
      cases hf⟩
theorem kfl_ok {c : Int} {ns : List Int} (x : Nf c ns) {k : Nat} (hk : k < 4) (hn : 0 < numK ns.length k) : ∀ p ∈ kfl ns k, 0 ≤ p.1 ∧ p.1 < p.2 := fun p hp => by
  unfold kfl at hp
  obtain ⟨⟨a, b⟩, hm, rfl⟩ := List.mem_map.mp hp
  obtain ⟨hab, hb, _⟩ := fk_ok x hk hn hm
  obtain ⟨p0, p1, _⟩ := pair_ok x hab hb
  exact ⟨p0, p1⟩
def fK0 (r : Nat) (n : Nat) : List (Nat × Nat) := (List.range n).flatMap fun f => (List.range ((r - (f + 2)) / 2)).map fun t => (f + 1, f + 3 + 2 * t)
theorem fK0_succ (r n : Nat) : fK0 r (n + 1) = fK0 r n ++ (List.range ((r - (n + 2)) / 2)).map fun t => (n + 1, n + 3 + 2 * t) := by
  unfold fK0
  rw [List.range_succ, List.flatMap_append]
  simp
theorem fK0_len (r : Nat) : ∀ n, (fK0 r n).length ≤ n * r
  | 0 => by simp [fK0]
  | n + 1 => by
    rw [fK0_succ, List.length_append, List.length_map, List.length_range, Nat.succ_mul]
    have := fK0_len r n
    omega
def spKindF (K : PySem.W.Frag) : Sp := fun vs H Q _ => ∃ p c ns k, vs = [.ref p, .str (kname k)] ∧ RowAt K H p c ns ∧ Nf c ns ∧ ns.length ≤ 2000 ∧ k < 4 ∧ 0 < numK ns.length k ∧ ∀ b H', H b = none → Same H H' → PlanAt K H' b (kfl ns k) → Q (.ref b) H'
theorem ok_flips_of_kind (T : TX K mg) : FnS P w K mg base (He.ga K "flips_of_kind") 4 ["row", "kind"] (spKindF K) := by
  refine mk_flips_of_kind T (fun vs H Q E h => ?_) (fun X vs H Q E C h => ?_)
  · obtain ⟨p, c, ns, k, rfl, _⟩ := h
    rfl
  obtain ⟨p, c, ns, k, rfl, hr, nf, hl, k4, kn, q⟩ := h
  have hK := C.K
  have ok := kfl_ok nf k4 kn
  unfold r_flips_of_kind
  repeat walk_at "v"
  obtain ⟨dx, lz, hp, hlz⟩ := hr
  refine ⟨_, mth_ins C hp (c_Row T) (h_Row_borders T) (by kernel_rfl), ?_⟩
  repeat walk_at "v"
  refine cv_fn C (ok_Row_borders T) (by omega) ⟨p, c, ns, rfl, ⟨dx, lz, hp, hlz⟩, by omega, fun b H1 nb s1 hb => ?_⟩
  repeat walk_at "v"
  refine row_prop T C (by omega) (p_Row_runs T) (ok_Row_runs T) (RowAt.same ⟨dx, lz, hp, hlz⟩ s1) fun H2 s2' => ?_
  have s2 := s1.trans s2'
  have hb := s2' _ _ hb
  clear s1 s2'
  repeat walk_at "v"
  refine ⟨szr rfl, fun t nt => ?_⟩
  have u3 := same_upd (o := .tup [.ref b, .int (ns.length : Int)]) nt
  have ht : (upd H2 t (.tup [.ref b, .int (ns.length : Int)])) t = some (.tup [.ref b, .int (ns.length : Int)]) := upd_same
  have s3 := s2.trans u3
  have hb := u3 _ _ hb
  generalize upd H2 t (.tup [.ref b, .int (ns.length : Int)]) = H3 at ht s3 hb ⊢
  clear u3 s2
  rw [hK]
  refine s_unpT (.of ht) rfl ?_
  refine s_gcons (s_gname (s_gcons (s_gname (s_gnil ?_))))
  -- a new flip
  have fl : ∀ {X' : Cx} {W' : WX} (C' : Ctx P w K mg base 3 X' W') (a b' : Nat) (σ' : L2.St) (H' : Hp) (Q' : VK), a < b' → b' ≤ ns.length → (∀ f H9, H' f = none → Same H' H9 → FlipAt K H9 f (bo ns a) (bo ns b') → Q' (.ref f) H9) →
      CV X' (.ref (cFlip K)) [.int (bo ns a), .int (bo ns b')] σ' H' Q' := fun C' a b' σ' H' Q' hab hb' q' => by
    obtain ⟨p0, p1, _⟩ := pair_ok nf hab hb'
    refine new_Flip T C' (by omega) NumK.int NumK.int (fun x y ex ey _ f H9 nf9 s9 hf => ?_) (fun no => by
      have : okFlip (.int (bo ns a)) (.int (bo ns b')) = true := by
        simp only [okFlip, Bool.and_eq_true, decide_eq_true_eq]
        omega
      rw [this] at no
      cases no)
    cases ex
    cases ey
    exact q' f H9 nf9 s9 hf
  have step : ∀ {k' : Nat}, k = k' → 0 < numK ns.length k' := fun e => e ▸ kn
  repeat walk_at "v"
  refine eq_sc rfl ?_
  rw [show ("left" : Str) = kname 1 from rfl, kname_ne k4 1 (by decide)]
  repeat walk_at "v"
  refine s_ite (fun a => ?_) (fun a => ?_)
  · subst a
    have h3 : 3 ≤ ns.length := by have := (num1 (by omega)).mp kn; omega
    repeat walk_at "v"
    refine s_lc3 C (m_range T C) ?_
    repeat walk_at "v"
    refine ⟨_, _, _, _, rfl, rgC2 (by decide) (by decide) (by omega) (by omega), ?_⟩
    have en : (((ns.length : Int) - 2 + 1) / 2).toNat = (ns.length - 1) / 2 := by omega
    rw [en]
    have at_ : ∀ i, i < (ns.length - 1) / 2 → (kfl ns 1)[i]? = some (bo ns 0, bo ns (2 + 2 * i)) := fun i hi => by
      show (((List.range ((ns.length - 1) / 2)).map fun t => (0, 2 + 2 * t)).map (prB ns))[i]? = _
      rw [List.map_map, List.getElem?_map, List.getElem?_range hi]
      rfl
    refine lc_relC (Nat.le_trans (by omega : (ns.length - 1) / 2 ≤ 1000) (by decide)) (FlKi K (kfl ns 1)) (fun hD s h => h.x hD s) (fun i H' R hi s r => ?_) (fun D H' ys nD s hD len hy => ?_)
    · refine s_gname ⟨rfl, fun Y bk => ?_⟩
      have CY := C.blk bk
      repeat walk_at "v"
      refine ix_l CY (v := .int (bo ns (2 + 2 * i))) (.of (s _ _ hb)) ?_ ?_
      · rw [show (2 : Int) + (i : Nat) * 2 = ((2 + 2 * i : Nat) : Int) from by omega]
        exact bors_ix (by omega)
      repeat walk_at "v"
      rw [show (0 : Int) = bo ns 0 from rfl]
      exact fl CY 0 (2 + 2 * i) _ _ _ (by omega) (by omega) fun f H9 _ s9 hf => r _ _ s9 ⟨f, _, at_ i hi, rfl, hf⟩
    · repeat walk_at "v"
      exact q D H' (none_of s3 nD) (s3.trans s) (plan_of hD (by rw [len]; show _ = (((List.range ((ns.length - 1) / 2)).map fun t => (0, 2 + 2 * t)).map (prB ns)).length; simp) hy ok)
  repeat walk_at "v"
  refine eq_sc rfl ?_
  rw [show ("right" : Str) = kname 2 from rfl, kname_ne k4 2 (by decide)]
  repeat walk_at "v"
  refine s_ite (fun d => ?_) (fun d => ?_)
  · subst d
    have h3 : 3 ≤ ns.length := by have := (num2 (by omega)).mp kn; omega
    repeat walk_at "v"
    refine s_lc3 C (m_range T C) ?_
    repeat walk_at "v"
    refine ⟨_, _, _, _, rfl, rgC2 (by decide) (by decide) (by omega) (by omega), ?_⟩
    have en : (((ns.length : Int) - 2 + 1) / 2).toNat = (ns.length - 1) / 2 := by omega
    rw [en]
    have at_ : ∀ i, i < (ns.length - 1) / 2 → (kfl ns 2)[i]? = some (bo ns (ns.length - (2 + 2 * i)), bo ns ns.length) := fun i hi => by
      show (((List.range ((ns.length - 1) / 2)).map fun t => (ns.length - (2 + 2 * t), ns.length)).map (prB ns))[i]? = _
      rw [List.map_map, List.getElem?_map, List.getElem?_range hi]
      rfl
    refine lc_relC (Nat.le_trans (by omega : (ns.length - 1) / 2 ≤ 1000) (by decide)) (FlKi K (kfl ns 2)) (fun hD s h => h.x hD s) (fun i H' R hi s r => ?_) (fun D H' ys nD s hD len hy => ?_)
    · refine s_gname ⟨rfl, fun Y bk => ?_⟩
      have CY := C.blk bk
      repeat walk_at "v"
      refine ix_l CY (v := .int (bo ns (ns.length - (2 + 2 * i)))) (.of (s _ _ hb)) ?_ ?_
      · rw [show (ns.length : Int) - (2 + (i : Nat) * 2) = ((ns.length - (2 + 2 * i) : Nat) : Int) from by omega]
        exact bors_ix (by omega)
      repeat walk_at "v"
      refine ix_l CY (v := .int (bo ns ns.length)) (.of (s _ _ hb)) (bors_ix (Nat.le_refl _)) ?_
      repeat walk_at "v"
      exact fl CY (ns.length - (2 + 2 * i)) ns.length _ _ _ (by omega) (Nat.le_refl _) fun f H9 _ s9 hf => r _ _ s9 ⟨f, _, at_ i hi, rfl, hf⟩
    · repeat walk_at "v"
      exact q D H' (none_of s3 nD) (s3.trans s) (plan_of hD (by rw [len]; show _ = (((List.range ((ns.length - 1) / 2)).map fun t => (ns.length - (2 + 2 * t), ns.length)).map (prB ns)).length; simp) hy ok)
  repeat walk_at "v"
  refine eq_sc rfl ?_
  rw [show ("whole" : Str) = kname 3 from rfl, kname_ne k4 3 (by decide)]
  repeat walk_at "v"
  refine s_ite (fun e => ?_) (fun e => ?_)
  · subst e
    have h1 : 1 ≤ ns.length := by have := (num3 (by omega)).mp kn; omega
    repeat walk_at "v"
    refine ix_l C (v := .int (bo ns ns.length)) (.of hb) (bors_ix (Nat.le_refl _)) ?_
    repeat walk_at "v"
    rw [show (0 : Int) = bo ns 0 from rfl]
    refine fl C 0 ns.length _ _ _ (by omega) (Nat.le_refl _) fun f H9 nf9 s9 hf => ?_
    repeat walk_at "v"
    refine ⟨szr rfl, fun D nD => ?_⟩
    have u := same_upd (o := .lst [.ref f]) nD
    refine q D _ (none_of (s3.trans s9) nD) ((s3.trans s9).trans u) (plan_of (ys := [.ref f]) upd_same rfl (fun i y hy => ?_) ok)
    cases i with
    | zero => cases hy; exact ⟨f, _, rfl, rfl, hf.same u⟩
    | succ i => simp at hy
  obtain rfl : k = 0 := by omega
  have h4 : 4 ≤ ns.length := by have := num0.mp kn; omega
  repeat walk_at "v"
  refine ⟨szr rfl, fun D nD => ?_⟩
  have nD0 := none_of s3 nD
  have u := same_upd (o := .lst []) nD
  have s4 := s3.trans u
  have hD : PlanAt K (upd H3 D (.lst [])) D ((fK0 ns.length 0).map (prB ns)) := ⟨[], upd_same, rfl, fun k f p e => by cases e⟩
  have bD : b ≠ D := fun z => by rw [z, nD] at hb; cases hb
  have hb := u _ _ hb
  generalize upd H3 D (.lst []) = H4 at s4 hD hb ⊢
  clear u s3 ht
  repeat walk_at "v"
  refine s_for2 (m_range T C) ?_
  repeat walk_at "v"
  refine ⟨1, ns.length, rfl, ⟨by decide, by decide, by omega, by omega⟩, ?_⟩
  have e0 : ((ns.length : Int) - 1).toNat = ns.length - 1 := by omega
  rw [e0]
  refine lp_range (fun i σ H' => ∃ o5 o6 o7, σ = [some (.ref p), some (.str (kname 0)), some (.ref b), some (.int ns.length), some (.ref D), o5, o6, o7] ∧ Same H H' ∧ H' b = some (.lst ((bors ns).map V.int)) ∧ PlanAt K H' D ((fK0 ns.length i).map (prB ns))) ⟨_, _, _, rfl, s4, hb, hD⟩ ?_ ?_
  · rintro i σ H5 hi ⟨o5, o6, o7, rfl, s5, hb5, hD5⟩
    repeat walk_at "v"
    refine s_for3 (m_range T C) ?_
    repeat walk_at "v"
    refine ⟨_, _, _, _, rfl, rgC2 (by omega) (by omega) (by omega) (by omega), ?_⟩
    have en : (((ns.length : Int) - (1 + (i : Nat) + 2) + 1) / 2).toNat = (ns.length - (i + 2)) / 2 := by omega
    rw [en]
    refine lp_rangeC (fun t σ H' => ∃ o6 o7, σ = [some (.ref p), some (.str (kname 0)), some (.ref b), some (.int ns.length), some (.ref D), some (.int (1 + (i : Nat))), o6, o7] ∧ Same H H' ∧ H' b = some (.lst ((bors ns).map V.int)) ∧ PlanAt K H' D ((fK0 ns.length i ++ (List.range t).map fun t => (i + 1, i + 3 + 2 * t)).map (prB ns))) ⟨_, _, rfl, s5, hb5, by rw [List.range_zero, List.map_nil, List.append_nil]; exact hD5⟩ ?_ ?_
    · rintro t σ H6 ht ⟨o6, o7, rfl, s6, hb6, hD6⟩
      have hD6' := hD6
      obtain ⟨fs0, a0, _⟩ := hD6'
      repeat walk_at "v"
      refine ⟨_, mth_append C (.of a0), ?_⟩
      repeat walk_at "v"
      refine ix_l C (v := .int (bo ns (i + 1))) (.of hb6) ?_ ?_
      · rw [show (1 : Int) + (i : Nat) = ((i + 1 : Nat) : Int) from by omega]
        exact bors_ix (by omega)
      repeat walk_at "v"
      refine ix_l C (v := .int (bo ns (i + 3 + 2 * t))) (.of hb6) ?_ ?_
      · rw [show (1 : Int) + (i : Nat) + 2 + (t : Nat) * 2 = ((i + 3 + 2 * t : Nat) : Int) from by omega]
        exact bors_ix (by omega)
      repeat walk_at "v"
      obtain ⟨p0, p1, _⟩ := pair_ok nf (by omega : i + 1 < i + 3 + 2 * t) (by omega)
      refine fl C (i + 1) (i + 3 + 2 * t) _ _ _ (by omega) (by omega) fun f H9 nf9 s9 hf => ?_
      repeat walk_at "v"
      obtain ⟨fs, a, l, pl⟩ := (hD6.same s9).snoc (p := (bo ns (i + 1), bo ns (i + 3 + 2 * t))) hf p0 p1
      have ll : fs.length ≤ 2000 * 2001 := by
        rw [l, List.length_map, List.length_append, List.length_map, List.length_range]
        have h1 := fK0_len ns.length i
        have h2 : i * ns.length ≤ 2000 * 2000 := Nat.mul_le_mul (by omega) (by omega)
        omega
      refine app_m a (by rw [List.length_map]; exact Nat.lt_of_le_of_lt ll (by decide)) ?_
      refine ⟨_, _, rfl, fun x o ex => ?_, ?_, ?_⟩
      · rw [upd_ne (ne_of_none ex nD0)]
        exact (s6.trans s9) _ _ ex
      · rw [upd_ne bD]
        exact s9 _ _ hb6
      · have ee : (fK0 ns.length i ++ (List.range (t + 1)).map fun t => (i + 1, i + 3 + 2 * t)).map (prB ns) = (fK0 ns.length i ++ (List.range t).map fun t => (i + 1, i + 3 + 2 * t)).map (prB ns) ++ [prB ns (i + 1, i + 3 + 2 * t)] := by
          rw [List.range_succ]
          simp
        rw [ee]
        exact pl
    · rintro σ H6 ⟨o6, o7, rfl, s6, hb6, hD6⟩
      exact ⟨_, _, _, rfl, s6, hb6, by rw [fK0_succ]; exact hD6⟩
  · rintro σ H5 ⟨o5, o6, o7, rfl, s5, hb5, hD5⟩
    repeat walk_at "v"
    exact q D H5 nD0 s5 hD5
end

section
variable {P : Program} {w : World} {K : PySem.W.Frag} {mg : Str → Option Value} {base : Heap} {k j : Nat} {X : Cx} {W : WX} {σ : L2.St} {H : Hp} {Q : VK}
/-! ### two makers -/
def TabZ (K : PySem.W.Frag) (H : Hp) : Prop := TabH K H "law" ∧ TabH K H "plain_best_flips"
theorem TabZ.same {H H' : Hp} (h : TabZ K H) (s : Same H H') : TabZ K H' := ⟨TabS.same h.1 s, TabS.same h.2 s⟩
theorem TabZ.xd {H H' : Hp} {d : Addr} {o : HO} (h : TabZ K H) (hd : H d = some o) (h1 : ∀ ps, o ≠ .tbl ps) (h2 : ∀ c q, o ≠ LamX.CodeO c q) (s : SameX d H H') : TabZ K H' := by
  have one : ∀ y, TabH K H y → TabH K H' y := fun y ⟨ps, a, b, c⟩ => by
    refine ⟨ps, s _ _ (fun z => by rw [z, hd] at a; exact h1 _ (Option.some.inj a)) a, b, fun pos cv hc => ?_⟩
    obtain ⟨cc, rfl, hcc⟩ := c pos cv hc
    exact ⟨cc, rfl, s _ _ (fun z => by rw [z, hd] at hcc; exact h2 _ _ (Option.some.inj hcc)) hcc⟩
  exact ⟨one _ h.1, one _ h.2⟩
def SortYZ (P : Program) (w : World) (K : PySem.W.Frag) (mg : Str → Option Value) (base : Heap) (j : Nat) (tb : Cx → TE) (σ : L2.St) (Q : VK) (x : V) (H0 : Hp) : Prop :=
  ∃ (l : Addr) (xs : List V) (ks : List PyData), x = .ref l ∧ H0 l = some (.lst xs) ∧ ks.length = xs.length ∧ PySem.W.AllAlike ks ∧ PySem.W.Sortable ks ∧ (∀ d ∈ ks, d.depth ≤ 8) ∧ TabZ K H0 ∧
    ∀ H1, Vc.Ext H0 H1 → TabZ K H1 →
      (∀ (i : Nat) (v : V) (d : PyData), xs[i]? = some v → ks[i]? = some d → ∀ H2, Same H1 H2 → ∀ Y, Ctx P w K mg base (j + 1) Y (fun _ _ _ _ => False) → tb Y (σ ++ [some v]) H2 fun z H3 => Same H2 H3 ∧ KeyV H3 z d) ∧
      ∀ r H4, H1 r = none → Same H1 H4 → H4 r = some (.lst (byKey xs ks)) → Q (.ref r) H4
theorem s_sortKZ {y p : Str} {j : Nat} {ta : TE} {tb : Cx → TE} (T : TX K mg) (hy : y = "law" ∨ y = "plain_best_flips") (C : Ctx P w K mg base k X W) [tf : TabF K mg base (y, none)] (d : IsDef K y X) (m : X.mg "sorted" = none) (hj : j + 4 ≤ k)
    (q : ∀ Q' : VK, (∀ x H0, SortYZ P w K mg base j tb σ Q x H0 → Q' x H0) → ta σ H Q') : tSortK X p ta tb σ H Q := by
  have C0 := C
  obtain ⟨rfl, rfl, rfl, rfl, rfl, hr, tk, hc⟩ := C
  refine ⟨hc, m, te_any (SortYZ X.prog X.w X.K X.mg X.base j tb σ Q) q (fun x H0 h => ?_)⟩
  · obtain ⟨l, xs, ks, rfl, hl, hlen, hal, hsk, hd, hT, q⟩ := h
    refine ⟨l, xs, ks, (He.cT X.K (y, none)).1, (He.cT X.K (y, none)).2, [((He.cT X.K (("law" : Str), none)).2, ("law" : Str) ++ ".<locals>." ++ "<lambda>"), ((He.cT X.K (("plain_best_flips" : Str), none)).2, ("plain_best_flips" : Str) ++ ".<locals>." ++ "<lambda>")], j, rfl, hl, hlen, hal, hsk, hd, ⟨tf.tb, d.co, ?_, ?_⟩, ?_, hr.mono hj, fun H1 eN T1 => ?_⟩
    · rw [d.qu]
      rcases hy with rfl | rfl
      · exact List.mem_cons_self
      · exact List.mem_cons_of_mem _ List.mem_cons_self
    · intro p hp e
      rw [d.qu]
      rcases List.mem_cons.mp hp with rfl | hp
      · rcases hy with rfl | rfl
        · rfl
        · exact absurd e (tne_law_plain_best_flips T)
      · rw [List.mem_singleton.mp hp] at e ⊢
        rcases hy with rfl | rfl
        · exact absurd e (tne_plain_best_flips_law T)
        · rfl
    · intro p hp
      rcases List.mem_cons.mp hp with rfl | hp
      · exact hT.1
      · rw [List.mem_singleton.mp hp]
        exact hT.2
    · obtain ⟨q1, q2⟩ := q H1 eN ⟨T1 _ List.mem_cons_self, T1 _ (List.mem_cons_of_mem _ List.mem_cons_self)⟩
      exact ⟨fun i v d hv hd H2 s2 Y lc => q1 i v d hv hd H2 s2 Y (C0.lam1 lc), q2⟩
end

section
variable {P : Program} {w : World} {K : PySem.W.Frag} {mg : Str → Option Value} {base : Heap}
/-! ### the best flips in order -/
/-- in order of their starts, then of their ends -/
def LexL (ps : List (Int × Int)) : Prop := ps.Pairwise fun p q => p.1 < q.1 ∨ (p.1 = q.1 ∧ p.2 ≤ q.2)
def encP (p : Int × Int) : PyData := .tuple [.int p.1, .int p.2]
def leF : Addr × (Int × Int) → Addr × (Int × Int) → Bool := PySem.W.dataLe false fun z => .tuple [.int z.2.1, .int z.2.2]
theorem leF_eq : leF = fun p q => decide (p.2.1 < q.2.1 ∨ (p.2.1 = q.2.1 ∧ p.2.2 ≤ q.2.2)) := PySem.W.dataLe_ii (fun z : Addr × (Int × Int) => z.2.1) (fun z => z.2.2)
/-- a list of flips that is sorted -/
theorem sortF {H : Hp} {r : Addr} {fs : List Addr} {ps : List (Int × Int)} (hl : fs.length = ps.length) (hr : H r = some (.lst (byKey (fs.map V.ref) (ps.map encP))))
    (hf : ∀ (k : Nat) f p, fs[k]? = some f → ps[k]? = some p → FlipAt K H f p.1 p.2 ∧ 0 ≤ p.1 ∧ p.1 < p.2) : ∃ qs, PlanAt K H r qs ∧ qs.Perm ps ∧ LexL qs := by
  have e1 : (fs.map V.ref).zip (ps.map encP) = (fs.zip ps).map fun z => (V.ref z.1, encP z.2) := by
    rw [List.zip_map]
    rfl
  have e2 : byKey (fs.map V.ref) (ps.map encP) = (((fs.zip ps).mergeSort leF).map Prod.fst).map V.ref := by
    unfold byKey
    rw [e1, ← List.map_mergeSort (r := leF) (f := fun z : Addr × (Int × Int) => (V.ref z.1, encP z.2)) (fun a _ b _ => rfl), List.map_map, List.map_map]
    rfl
  rw [e2] at hr
  have pm := List.mergeSort_perm (fs.zip ps) leF
  have pw : ((fs.zip ps).mergeSort leF).Pairwise (fun a b => leF a b = true) := List.pairwise_mergeSort (fun a b c h1 h2 => by
    rw [leF_eq] at h1 h2 ⊢
    simp only [decide_eq_true_eq] at h1 h2 ⊢
    omega) (fun a b => by
    rw [leF_eq]
    simp only [Bool.or_eq_true, decide_eq_true_eq]
    omega) _
  generalize (fs.zip ps).mergeSort leF = M at hr pm pw
  have mem : ∀ z ∈ M, FlipAt K H z.1 z.2.1 z.2.2 ∧ 0 ≤ z.2.1 ∧ z.2.1 < z.2.2 := fun z hz => by
    have hz' := pm.mem_iff.mp hz
    obtain ⟨i, hi⟩ := List.getElem?_of_mem hz'
    rw [List.getElem?_zip_eq_some] at hi
    exact hf i z.1 z.2 hi.1 hi.2
  refine ⟨M.map Prod.snd, ⟨M.map Prod.fst, hr, by simp, fun k f p a1 a2 => ?_⟩, ?_, ?_⟩
  · rw [List.getElem?_map] at a1 a2
    cases e : M[k]? with
    | none => rw [e] at a1; cases a1
    | some z =>
      rw [e] at a1 a2
      cases a1
      cases a2
      obtain ⟨x, y, u⟩ := mem z (List.mem_of_getElem? e)
      refine ⟨x, y, u, fun n => ?_⟩
      obtain ⟨dx, x⟩ := x
      rw [n, hr] at x
      cases x
  · have := pm.map Prod.snd
    rw [List.map_snd_zip (by omega)] at this
    exact this
  · unfold LexL
    rw [List.pairwise_map]
    exact pw.imp fun {a b} h => by
      rw [leF_eq] at h
      simpa using h
def NeT (H : Hp) (b : Addr) : Prop := ∀ a o, H a = some o → (∀ ps, o ≠ .tbl ps) → b ≠ a
def spPBF (K : PySem.W.Frag) : Sp := fun vs H Q _ => ∃ p c ns g s, vs = [.ref p, .str (gname g), .str (oname s)] ∧ RowAt K H p c ns ∧ Nf c ns ∧ ns.length ≤ 2000 ∧ g < 3 ∧ TabZ K H ∧
  ∀ b qs H', NeT H b → Vc.Ext H H' → TabZ K H' → PlanAt K H' b qs → qs.Perm (bestF ns c g s) → LexL qs → Q (.ref b) H'
theorem kfl_len {ns : List Int} (hl : ns.length ≤ 2000) {k : Nat} (k4 : k < 4) (kn : 0 < numK ns.length k) : (kfl ns k).length ≤ 1000000 := by
  have e := fK_len k4 kn
  unfold kfl
  rw [List.length_map]
  have : numK ns.length k ≤ 1000000 := by
    have c : k = 0 ∨ k = 1 ∨ k = 2 ∨ k = 3 := by omega
    rcases c with rfl | rfl | rfl | rfl
    · show (if 2 ≤ (ns.length : Int) then ((ns.length : Int) - 2) * ((ns.length : Int) - 2) / 4 else 0) ≤ 1000000
      split
      · have : ((ns.length : Int) - 2) * ((ns.length : Int) - 2) ≤ 1998 * 1998 := Int.mul_le_mul (by omega) (by omega) (by omega) (by decide)
        omega
      · decide
    · show (if (ns.length : Int) = 0 then 0 else ((ns.length : Int) - 1) / 2) ≤ 1000000
      split <;> omega
    · show (if (ns.length : Int) = 0 then 0 else ((ns.length : Int) - 1) / 2) ≤ 1000000
      split <;> omega
    · show (if (ns.length : Int) = 0 then 0 else 1) ≤ 1000000
      split <;> omega
  omega
theorem ok_plain_best_flips [TabF K mg base ("plain_best_flips", none)] (T : TX K mg) : FnS P w K mg base (He.ga K "plain_best_flips") 8 ["row", "game", "goal"] (spPBF K) := by
  refine mk_plain_best_flips T (fun vs H Q E h => ?_) (fun X vs H Q E C dd h => ?_)
  · obtain ⟨p, c, ns, g, s, rfl, _⟩ := h
    rfl
  obtain ⟨p, c, ns, g, s, rfl, hr, nf, hl, hg, hT, q⟩ := h
  have hK := C.K
  unfold r_plain_best_flips
  repeat walk_at "v"
  refine ⟨szr rfl, fun b nb => ?_⟩
  have u1 := same_upd (o := .lst []) nb
  have hb : PlanAt K (upd H b (.lst [])) b [] := ⟨[], upd_same, rfl, fun k f p e => by cases e⟩
  generalize upd H b (.lst []) = H1 at u1 hb ⊢
  repeat walk_at "v"
  refine s_forL ?_
  repeat walk_at "v"
  refine row_prop T C (by omega) (p_Row_runs T) (ok_Row_runs T) (hr.same u1) fun H2 s2' => ?_
  have s2 := u1.trans s2'
  repeat walk_at "v"
  refine row_prop T C (by omega) (p_Row_first T) (ok_Row_first T) (hr.same s2) fun H3 s3' => ?_
  have s3 := s2.trans s3'
  repeat walk_at "v"
  refine cv_fn C (ok_best_kinds T) (by omega) ⟨_, c, g, s, rfl, hg, by omega, by omega, fun l H4 nl s4' hlk => ?_⟩
  have s4 := s3.trans s4'
  have hb4 := ((hb.same s2').same s3').same s4'
  have lb : l ≠ b := fun z => by
    obtain ⟨fs, a, _⟩ := (hb.same s2').same s3'
    rw [z, a] at nl
    cases nl
  clear s2 s3 s2' s3' s4' hb u1
  refine it_l C (.of hlk) ?_
  have ll : (bestK ns.length c g s).length ≤ 4 := by
    refine Nat.le_trans (List.length_filter_le _ _) ?_
    rcases c3 hg with rfl | rfl | rfl <;> decide
  refine lp_list (xs := kvs (bestK ns.length c g s)) (fun i σ H' => ∃ o4, σ = [some (.ref p), some (.str (gname g)), some (.str (oname s)), some (.ref b), o4] ∧ SameX b H4 H' ∧ Same H H' ∧ PlanAt K H' b (((bestK ns.length c g s).take i).flatMap (kfl ns))) ⟨_, rfl, SameX.refl, s4, hb4⟩ ?_ ?_ ?_
  · rintro i σ H' _ ⟨_, rfl, sx, _, _⟩
    exact .of (sx _ _ lb hlk)
  · rintro i x σ H5 hx ⟨o4, rfl, sx, s5, hb5⟩
    obtain ⟨k, ek, rfl⟩ : ∃ k, (bestK ns.length c g s)[i]? = some k ∧ V.str (kname k) = x := by
      unfold kvs at hx
      rw [List.getElem?_map] at hx
      cases e : (bestK ns.length c g s)[i]? with
      | none => rw [e] at hx; cases hx
      | some k => rw [e] at hx; cases hx; exact ⟨k, rfl, rfl⟩
    obtain ⟨kg, kn, _⟩ := mem_bestK.mp (List.mem_of_getElem? ek)
    have k4 := kindsG_l4 kg
    obtain ⟨fs0, a0, _⟩ := id hb5
    repeat walk_at "v"
    refine ⟨_, mth_extend C (.of a0), ?_⟩
    repeat walk_at "v"
    refine cv_fn C (ok_flips_of_kind T) (by omega) ⟨p, c, ns, k, rfl, hr.same s5, nf, by omega, k4, kn, fun b2 H6 nb2 s6 hb2 => ?_⟩
    repeat walk_at "v"
    obtain ⟨fs, gs, a1, a2, l1, l2, pl⟩ := (hb5.same s6).app hb2
    have len : ∀ m, ((((bestK ns.length c g s).take m).flatMap (kfl ns))).length ≤ 4 * 1000000 := fun m => by
      have h1 : ∀ L : List Nat, (∀ k ∈ L, k < 4 ∧ 0 < numK ns.length k) → (L.flatMap (kfl ns)).length ≤ L.length * 1000000 := fun L => by
        induction L with
        | nil => intro _; simp
        | cons a L ih =>
          intro hL
          have ha := hL a List.mem_cons_self
          have ih := ih fun k hk => hL k (List.mem_cons_of_mem _ hk)
          rw [List.flatMap_cons, List.length_append, List.length_cons, Nat.succ_mul]
          have := kfl_len hl ha.1 ha.2
          omega
      refine Nat.le_trans (h1 _ fun k hk => ?_) (Nat.mul_le_mul_right _ ?_)
      · obtain ⟨kg, kn, _⟩ := mem_bestK.mp (List.mem_of_mem_take hk)
        exact ⟨kindsG_l4 kg, kn⟩
      rw [List.length_take]
      omega
    refine ext_m a1 a2 ?_ ?_
    · rw [List.length_map, List.length_map, l1, l2]
      have h1 := len i
      have h2 := kfl_len hl k4 kn
      exact Nat.le_trans (Nat.add_le_add h1 h2) (by decide)
    · refine ⟨_, rfl, fun c' o nc ec => ?_, fun c' o ec => ?_, ?_⟩
      · rw [upd_ne nc]
        exact s6 _ _ (sx _ _ nc ec)
      · rw [upd_ne (ne_of_none ec nb)]
        exact s6 _ _ (s5 _ _ ec)
      · obtain ⟨hi, ei⟩ := List.getElem?_eq_some_iff.mp ek
        rw [List.take_succ_eq_append_getElem hi, ei, List.flatMap_append]
        have e0 : [k].flatMap (kfl ns) = kfl ns k := by simp
        rw [e0]
        exact pl
  · rintro σ H5 ⟨o4, rfl, sx, s5, hb5⟩
    have e0 : (bestK ns.length c g s).take (kvs (bestK ns.length c g s)).length = bestK ns.length c g s := by
      unfold kvs
      rw [List.length_map, List.take_length]
    rw [e0] at hb5
    obtain ⟨fs, a0, l0, f0⟩ := hb5
    repeat walk_at "v"
    refine s_sortKZ (j := 2) T (.inr rfl) C dd (m_sorted T C) (by omega) (fun Q' q' => ?_)
    repeat walk_at "v"
    refine q' _ _ ⟨b, _, ((bestK ns.length c g s).flatMap (kfl ns)).map encP, rfl, a0, by rw [List.length_map, List.length_map, l0], .of fun _ _ => rfl, .tuples fun z => ⟨_, _, rfl⟩, fun d hd => ?_, TabZ.same hT s5, fun H6 e6 hT6 => ⟨fun i v d hv hd H7 s7 Y CY => ?_, fun r H7 nr s7 hr7 => ?_⟩⟩
    · obtain ⟨z, _, rfl⟩ := List.mem_map.mp hd
      show PyData.depth (.tuple [.int z.1, .int z.2]) ≤ 8
      simp [PyData.depth, PyData.depthAll]
    · rw [List.getElem?_map] at hv hd
      cases h1 : fs[i]? with
      | none => rw [h1] at hv; cases hv
      | some f =>
        cases h2 : ((bestK ns.length c g s).flatMap (kfl ns))[i]? with
        | none => rw [h2] at hd; cases hd
        | some pp =>
          rw [h1] at hv
          rw [h2] at hd
          cases hv
          cases hd
          obtain ⟨⟨dx, x⟩, _⟩ := f0 i f pp h1 h2
          have hf : FlipAt K H7 f pp.1 pp.2 := ⟨dx, s7 _ _ (e6 _ _ x fun _ z => by cases z)⟩
          repeat walk_at "v"
          refine flip_prop T CY (by omega) (p_Flip_start T) (ok_Flip_start T) hf ?_
          repeat walk_at "v"
          refine flip_prop T CY (by omega) (p_Flip_end T) (ok_Flip_end T) hf ?_
          repeat walk_at "v"
          exact ⟨szr rfl, fun t nt => ⟨same_upd nt, .pair upd_same⟩⟩
    · have e67 : Vc.Ext H5 H7 := LamX.ExtN.trans e6 (Vc.Same.ext s7)
      obtain ⟨qs, p1, p2, p3⟩ := sortF (K := K) l0 hr7 fun k f pp h1 h2 => by
        obtain ⟨⟨dx, x⟩, y, z, _⟩ := f0 k f pp h1 h2
        exact ⟨⟨dx, e67 _ _ x fun _ z => by cases z⟩, y, z⟩
      refine q r qs H7 (fun a o ea no z => ?_) (LamX.ExtN.trans (Vc.Same.ext s5) e67) (TabZ.same hT6 s7) p1 p2 p3
      have := e6 _ _ (s5 _ _ ea) no
      rw [z, this] at nr
      cases nr
end

section
variable {P : Program} {w : World} {K : PySem.W.Frag} {mg : Str → Option Value} {base : Heap}
def spBF (K : PySem.W.Frag) : Sp := fun vs H Q E => ∃ p c ns y z t u, vs = [.ref p, y, z] ∧ RowAt K H p c ns ∧ StrK K H y t ∧ StrK K H z u ∧ (WordsE K H y z E ∨
  ∃ g s, g < 3 ∧ y = .str (gname g) ∧ z = .str (oname s) ∧ Nf c ns ∧ ns.length ≤ 2000 ∧ TabZ K H ∧
  (numS ns.length c g s ≤ 20000 → ∀ b qs H', NeT H b → Vc.Ext H H' → TabZ K H' → PlanAt K H' b qs → qs.Perm (bestF ns c g s) → LexL qs → Q (.ref b) H') ∧
  (20000 < numS ns.length c g s → ∀ d H', Same H H' → H' d = none → E (.ref (He.ga K "LimitExceeded")) (some d) (upd H' d (.xd [(("limit" : Str), .int 20000)]))))
theorem ok_best_flips [PF P] [TabF K mg base ("plain_best_flips", none)] (T : TX K mg) : FnS P w K mg base (He.ga K "best_flips") 9 ["row", "game", "goal"] (spBF K) := by
  refine mk_best_flips T (fun vs H Q E h => ?_) (fun X vs H Q E C h => ?_)
  · obtain ⟨p, c, ns, y, z, t, u, rfl, _⟩ := h
    rfl
  obtain ⟨p, c, ns, y, z, t, u, rfl, hr, sy, sz', h⟩ := h
  unfold r_best_flips
  repeat walk_at "v"
  rcases h with h | ⟨g, s, hg, rfl, rfl, nf, hl, hT, q, qE⟩
  · exact cv_fn C (ok_count_best T) (by omega) ⟨p, c, ns, y, z, t, u, rfl, hr, sy, sz', .inl h⟩
  refine cv_fn C (ok_count_best T) (by omega) ⟨p, c, ns, _, _, _, _, rfl, hr, .str, .str, .inr ⟨g, s, hg, rfl, rfl, by omega, fun d H1 nd s1 hd => ?_⟩⟩
  refine ⟨_, mth_values C hd, ?_⟩
  repeat walk_at "v"
  refine vals_d hd fun v nv => ?_
  have u2 := same_upd (o := viewO "dict_values" v d) nv
  have hv : (upd H1 v (viewO "dict_values" v d)) v = some (viewO "dict_values" v d) := upd_same
  have hd2 := u2 _ _ hd
  have s2 := s1.trans u2
  generalize upd H1 v (viewO "dict_values" v d) = H2 at hv hd2 s2 ⊢
  repeat walk_at "v"
  refine sum_v (ns := (bestK ns.length c g s).map (numK ns.length)) C hv hd2 (by unfold cntD; rw [List.map_map, List.map_map]; rfl) ?_
  repeat walk_at "v"
  refine s_ite (fun a => ?_) (fun a => ?_)
  · repeat walk_at "v"
    exact mkx_LimitExceeded T C (by omega) fun d nd => qE (by unfold numS; omega) d H2 s2 nd
  · repeat walk_at "v"
    refine cv_fn C (ok_plain_best_flips T) (by omega) ⟨p, c, ns, g, s, rfl, hr.same s2, nf, hl, hg, TabZ.same hT s2, fun b qs H3 ne e3 hT3 pl pm lx => ?_⟩
    repeat walk_at "v"
    exact q (by unfold numS; omega) b qs H3 (fun a o ea no => ne a o (s2 _ _ ea) no) (LamX.ExtN.trans (Vc.Same.ext s2) e3) hT3 pl pm lx
end

section
variable {P : Program} {w : World} {K : PySem.W.Frag} {mg : Str → Option Value} {base : Heap}
def spLawCost : Sp := fun vs H Q _ => ∃ (r f : Int) (g : Nat) (s : Bool), vs = [.int r, .int f, .str (gname g), .str (oname s)] ∧ 0 ≤ r ∧ r ≤ 1000000 ∧ (f = 0 ∨ f = 1) ∧ g < 3 ∧ Q (.int (cN r f g s)) H
theorem ok__law_cost (T : TX K mg) : FnS P w K mg base (He.ga K "_law_cost") 1 ["_law_runs", "_law_first", "_law_game", "_law_goal"] spLawCost := by
  refine mk__law_cost T (fun vs H Q E h => ?_) (fun X vs H Q E C h => ?_)
  · obtain ⟨r, f, g, s, rfl, _⟩ := h
    rfl
  obtain ⟨r, f, g, s, rfl, h0, h1, hf, hg, q⟩ := h
  have e1 : decide (V.str (oname s) = .str "grouped") = !s := by cases s <;> decide +kernel
  unfold r__law_cost
  repeat walk_at "v"
  refine mod_ii (by decide) ?_
  repeat walk_at "v"
  unfold cN at q
  refine s_ite (fun a => ?_) (fun a => ?_)
  · rw [if_pos a] at q
    repeat walk_at "v"
    exact q
  rw [if_neg a] at q
  repeat walk_at "v"
  refine eq_sc rfl ?_
  rw [e1]
  have g0 := gname_ne hg 0 (by decide)
  have g1 := gname_ne hg 1 (by decide)
  have g2 := gname_ne hg 2 (by decide)
  cases s with
  | false =>
    rw [if_neg (by decide)] at q
    repeat walk_at "v"
    refine s_ifx ?_
    repeat walk_at "v"
    refine eq_sc rfl ?_
    rw [show ("parts" : Str) = gname 2 from rfl, g2]
    by_cases b : g = 2
    · rw [if_pos b] at q
      rw [decide_eq_true b]
      repeat walk_at "v"
      exact div_ii (by decide) (small_div (by decide)) q
    · rw [if_neg b] at q
      rw [decide_eq_false b]
      repeat walk_at "v"
      exact q
  | true =>
    rw [if_pos rfl] at q
    repeat walk_at "v"
    refine eq_sc rfl ?_
    rw [show ("front" : Str) = gname 0 from rfl, g0]
    by_cases b : g = 0
    · rw [if_pos b] at q
      rw [decide_eq_true b]
      repeat walk_at "v"
      refine s_ifx ?_
      repeat walk_at "v"
      by_cases c : (f + r - 1) % 2 = 0
      · rw [if_pos c] at q
        rw [decide_eq_true c]
        repeat walk_at "v"
        exact q
      · rw [if_neg c] at q
        rw [decide_eq_false c]
        repeat walk_at "v"
        exact q
    rw [if_neg b] at q
    rw [decide_eq_false b]
    repeat walk_at "v"
    refine eq_sc rfl ?_
    rw [show ("ends" : Str) = gname 1 from rfl, g1]
    by_cases c : g = 1
    · rw [if_pos c] at q
      rw [decide_eq_true c]
      repeat walk_at "v"
      refine s_ifx ?_
      repeat walk_at "v"
      by_cases d : r = 2
      · rw [decide_eq_true d]
        repeat walk_at "v"
        by_cases e : f = 1
        · rw [if_pos ⟨d, e⟩] at q
          rw [decide_eq_true e]
          repeat walk_at "v"
          rw [show r - 2 + 1 = 1 by omega] at q
          exact q
        · rw [if_neg fun h => e h.2] at q
          rw [decide_eq_false e]
          repeat walk_at "v"
          rw [Int.add_zero] at q
          exact q
      · rw [if_neg fun h => d h.1] at q
        rw [decide_eq_false d]
        repeat walk_at "v"
        rw [Int.add_zero] at q
        exact q
    rw [if_neg c] at q
    rw [decide_eq_false c]
    repeat walk_at "v"
    by_cases d : f = (f + r - 1) % 2
    · rw [decide_eq_true d]
      repeat walk_at "v"
      rw [show (r - 2 + f + (if (f + r - 1) % 2 = 0 then 1 else 0)) / 2 = (r - 1) / 2 by split <;> omega] at q
      exact div_ii (by decide) (small_div (by decide)) q
    rw [decide_eq_false d]
    repeat walk_at "v"
    refine s_ifx ?_
    repeat walk_at "v"
    by_cases e : f = 0
    · rw [decide_eq_true e]
      repeat walk_at "v"
      rw [show (r - 2 + f + (if (f + r - 1) % 2 = 0 then 1 else 0)) / 2 = (r - 2) / 2 by split <;> omega] at q
      exact div_ii (by decide) (small_div (by decide)) q
    · rw [decide_eq_false e]
      repeat walk_at "v"
      rw [show (r - 2 + f + (if (f + r - 1) % 2 = 0 then 1 else 0)) / 2 = r / 2 by split <;> omega] at q
      exact div_ii (by decide) (small_div (by decide)) q
end

section
variable {P : Program} {w : World} {K : PySem.W.Frag} {mg : Str → Option Value} {base : Heap}
theorem none_bk {H H' : Hp} {l : Addr} (s : Same H H') (n : H' l = none) : H l = none := by
  cases e : H l with
  | none => rfl
  | some o => rw [s _ _ e] at n; cases n
/-- [elt for x in a list], by the place -/
theorem lc_ix {σ : L2.St} {H : Hp} {Q : VK} {a : Addr} {xs : List V} {g : TG} {te : TE} {vs : List Nat} (h : SqL K H a xs) (hz : xs.length ≤ sizeLine) (f : Nat → V)
    (hs : ∀ (i : Nat) (x : V) (H' : Hp) (R : V → Hp → Prop), xs[i]? = some x → Same H H' → (∀ H4, Same H' H4 → R (f i) H4) → g x (wipe σ vs) H' fun σ2 H2 => wipe σ2 vs = wipe σ vs ∧ te σ2 H2 R)
    (q : ∀ D H', H D = none → H' D = some (.lst ((List.range xs.length).map f)) → Same H H' → Q (.ref D) H') : LcT (Itl K a) g tYes te vs σ H Q := by
  intro D hD
  refine lc_list (fun i H' => Same H H' ∧ H' D = some (.lst ((List.range i).map f))) ⟨same_upd hD, upd_same⟩ (fun i H' _ p => SqL_same p.1 h) (fun i x H' e p => ?_) (fun H' p => q D H' hD p.2 p.1)
  have hi : i < xs.length := (List.getElem?_eq_some_iff.mp e).1
  rw [yes_eq]
  refine hs i x H' _ e p.1 fun H4 s4 => ⟨_, s4 _ _ p.2, by rw [List.length_map, List.length_range]; omega, fun b o eb => ?_, ?_⟩
  · rw [upd_ne (ne_of_none eb hD)]
    exact s4 _ _ (p.1 _ _ eb)
  · rw [List.range_succ, List.map_append]
    exact upd_same
end

section
theorem stK_ok {r c : Int} {k : Nat} (hc : c = 0 ∨ c = 1) (h0 : 0 ≤ r) (k4 : k < 4) (hn : 0 < numK r k) : 0 ≤ (stK r c k).1 ∧ (stK r c k).1 ≤ r ∧ ((stK r c k).2 = 0 ∨ (stK r c k).2 = 1) := by
  have ck : k = 0 ∨ k = 1 ∨ k = 2 ∨ k = 3 := by omega
  rcases ck with rfl | rfl | rfl | rfl
  · have h4 := num0.mp hn
    exact ⟨by show 0 ≤ r - 2; omega, by show r - 2 ≤ r; omega, hc⟩
  · have h3 := (num1 h0).mp hn
    exact ⟨by show 0 ≤ r - 1; omega, by show r - 1 ≤ r; omega, by show 1 - c = 0 ∨ 1 - c = 1; omega⟩
  · have h3 := (num2 h0).mp hn
    exact ⟨by show 0 ≤ r - 1; omega, by show r - 1 ≤ r; omega, hc⟩
  · exact ⟨h0, Int.le_refl _, by show (c + r - 1) % 2 = 0 ∨ (c + r - 1) % 2 = 1; omega⟩
end

section
variable {P : Program} {w : World} {K : PySem.W.Frag} {mg : Str → Option Value} {base : Heap}
/-! ### the law's own numbers -/
def spAf (K : PySem.W.Frag) : Sp := fun vs H Q _ => ∃ (r f : Int) (k : Nat), vs = [.int r, .int f, .str (kname k)] ∧ k < 4 ∧ ∀ l H', H l = none → Same H H' → H' l = some (.lst [.int (stK r f k).1, .int (stK r f k).2]) → Q (.ref l) H'
theorem kn_dec {a b : Nat} (ha : a < 4) (hb : b < 4) : decide (V.str (kname a) = V.str (kname b)) = decide (a = b) := kname_ne ha b hb
theorem ok__law_after (T : TX K mg) : FnS P w K mg base (He.ga K "_law_after") 1 ["_law_runs", "_law_first", "_law_kind"] (spAf K) := by
  refine mk__law_after T (fun vs H Q E h => ?_) (fun X vs H Q E C h => ?_)
  · obtain ⟨r, f, k, rfl, _⟩ := h
    rfl
  obtain ⟨r, f, k, rfl, k4, q⟩ := h
  have c : k = 0 ∨ k = 1 ∨ k = 2 ∨ k = 3 := by omega
  unfold r__law_after
  repeat walk_at "v"
  refine eq_sc rfl ?_
  rw [show ("inner" : Str) = kname 0 from rfl, kn_dec k4 (by decide)]
  by_cases h0 : k = 0
  · subst h0
    rw [decide_eq_true rfl]
    repeat walk_at "v"
    exact ⟨szr rfl, fun l nl => q l _ nl (same_upd nl) upd_same⟩
  rw [decide_eq_false h0]
  repeat walk_at "v"
  refine eq_sc rfl ?_
  rw [show ("whole" : Str) = kname 3 from rfl, kn_dec k4 (by decide)]
  by_cases h3 : k = 3
  · subst h3
    rw [decide_eq_true rfl]
    repeat walk_at "v"
    refine mod_ii (by decide) ?_
    repeat walk_at "v"
    exact ⟨szr rfl, fun l nl => q l _ nl (same_upd nl) upd_same⟩
  rw [decide_eq_false h3]
  repeat walk_at "v"
  refine s_ifx ?_
  repeat walk_at "v"
  refine eq_sc rfl ?_
  rw [show ("left" : Str) = kname 1 from rfl, kn_dec k4 (by decide)]
  have c12 : k = 1 ∨ k = 2 := by omega
  rcases c12 with rfl | rfl
  · rw [decide_eq_true rfl]
    repeat walk_at "v"
    exact ⟨szr rfl, fun l nl => q l _ nl (same_upd nl) upd_same⟩
  · rw [show decide ((2 : Nat) = 1) = false from rfl]
    repeat walk_at "v"
    exact ⟨szr rfl, fun l nl => q l _ nl (same_upd nl) upd_same⟩
theorem valV_no (f : Nat → Int) {m : Nat} (hm : m < 4) : ∀ {ms : List Nat}, (∀ k ∈ ms, k < 4) → m ∉ ms → L2.valV (ms.map fun k => ((.inr (kname k) : Key), V.int (f k))) (.inr (kname m)) = none
  | [], _, _ => rfl
  | a :: ms, hl, h => by
    have e : a ≠ m := fun q => h (by rw [q]; exact List.mem_cons_self)
    rw [List.map_cons, L2.valV_neg (fun q => e (kname_inj (hl a List.mem_cons_self) hm (Sum.inr.inj q)))]
    exact valV_no f hm (fun k hk => hl k (List.mem_cons_of_mem _ hk)) fun q => h (List.mem_cons_of_mem _ q)
theorem kindsG_nd {g : Nat} (hg : g < 3) : (kindsG g).Nodup := by rcases c3 hg with rfl | rfl | rfl <;> decide
def spNum17 (K : PySem.W.Frag) : Sp := fun vs H Q _ => ∃ (r f : Int) (g : Nat) (s : Bool), vs = [.int r, .int f, .str (gname g), .str (oname s)] ∧ 0 ≤ r ∧ r ≤ 100000 ∧ (f = 0 ∨ f = 1) ∧ g < 3 ∧ ∀ d H', H d = none → Same H H' → H' d = some (.dK (cntD r f g s)) → Q (.ref d) H'
theorem ok__law_numbers (T : TX K mg) : FnS P w K mg base (He.ga K "_law_numbers") 2 ["_law_runs", "_law_first", "_law_game", "_law_goal"] (spNum17 K) := by
  refine mk__law_numbers T (fun vs H Q E h => ?_) (fun X vs H Q E C h => ?_)
  · obtain ⟨r, f, g, s, rfl, _⟩ := h
    rfl
  obtain ⟨r, f, g, s, rfl, r0, r1, hf, hg, q⟩ := h
  unfold r__law_numbers
  repeat walk_at "v"
  refine te_any (fun v H' => v = .int (numK r 1) ∧ H' = H) (fun Q' q' => ?_) (fun v H1 e => ?_)
  · have e0 : numK r 1 = if r = 0 then 0 else (r - 1) / 2 := rfl
    refine s_ifx ?_
    repeat walk_at "v"
    refine s_ite (fun b => ?_) (fun b => ?_)
    · repeat walk_at "v"
      refine div_ii (by decide) (small_div (by decide)) ?_
      exact q' _ _ ⟨by rw [e0, if_neg (by omega)], rfl⟩
    · repeat walk_at "v"
      exact q' _ _ ⟨by rw [e0, if_pos (by omega)], rfl⟩
  obtain ⟨rfl, rfl⟩ := e
  repeat walk_at "v"
  refine te_any (fun v H' => v = .int (numK r 0) ∧ H' = H1) (fun Q' q' => ?_) (fun v H2 e => ?_)
  · have e0 : numK r 0 = if 2 ≤ r then (r - 2) * (r - 2) / 4 else 0 := rfl
    refine s_ifx ?_
    repeat walk_at "v"
    refine s_ite (fun b => ?_) (fun b => ?_)
    · repeat walk_at "v"
      refine pow_ii ⟨by decide, by decide, by omega⟩ ?_
      repeat walk_at "v"
      refine div_ii (by decide) (small_div (by decide)) ?_
      rw [show (r - 2) ^ (2 : Int).toNat = (r - 2) * (r - 2) from by show (r - 2) ^ 2 = _; rw [Int.pow_succ, Int.pow_succ, Int.pow_zero, Int.one_mul]]
      exact q' _ _ ⟨by rw [e0, if_pos (by omega)], rfl⟩
    · repeat walk_at "v"
      exact q' _ _ ⟨by rw [e0, if_neg (by omega)], rfl⟩
  obtain ⟨rfl, rfl⟩ := e
  repeat walk_at "v"
  refine s_disp fun dd nd => ?_
  repeat first | refine s_pcons ?_ | refine s_pnil ?_ | walk_at "v"
  refine te_any (fun v H' => v = .int (numK r 3) ∧ H' = upd H2 dd (.dK [])) (fun Q' q' => ?_) (fun v H3 e => ?_)
  · have e0 : numK r 3 = if r = 0 then 0 else 1 := rfl
    refine s_ifx ?_
    repeat walk_at "v"
    refine s_ite (fun b => ?_) (fun b => ?_)
    · repeat walk_at "v"
      exact q' _ _ ⟨by rw [e0, if_neg (by omega)], rfl⟩
    · repeat walk_at "v"
      exact q' _ _ ⟨by rw [e0, if_pos (by omega)], rfl⟩
  obtain ⟨rfl, rfl⟩ := e
  repeat first | refine s_pcons ?_ | refine s_pnil ?_ | walk_at "v"
  refine ⟨upd_same, [(.inr "inner", .int (numK r 0)), (.inr "left", .int (numK r 1)), (.inr "right", .int (numK r 1)), (.inr "whole", .int (numK r 3))], rfl, by show 4 ≤ 15; decide, ?_⟩
  rw [upd_upd, merge4]
  have u3 := same_upd (o := .dK (numD r)) nd
  have hd3 : (upd H2 dd (.dK (numD r))) dd = some (.dK (numD r)) := upd_same
  have e12 : numK r 1 = numK r 2 := rfl
  show _
  rw [show (.dK [(.inr "inner", .int (numK r 0)), (.inr "left", .int (numK r 1)), (.inr "right", .int (numK r 1)), (.inr "whole", .int (numK r 3))] : HO) = .dK (numD r) from rfl]
  generalize upd H2 dd (.dK (numD r)) = H3 at u3 hd3 ⊢
  repeat walk_at "v"
  refine te_any (fun v H' => ∃ l, v = .ref l ∧ Same H3 H' ∧ H' l = some (.lst (kvs (if g = 0 then [1, 3] else [1, 2, 3])))) (fun Q' q' => ?_) (fun v H4 e => ?_)
  · refine s_ifx ?_
    repeat walk_at "v"
    refine eq_sc rfl ?_
    rw [show ("front" : Str) = gname 0 from rfl, gname_ne hg 0 (by decide)]
    by_cases g0 : g = 0
    · rw [decide_eq_true g0]
      repeat walk_at "v"
      exact ⟨szr rfl, fun l nl => q' _ _ ⟨l, rfl, same_upd nl, by rw [if_pos g0]; exact upd_same⟩⟩
    · rw [decide_eq_false g0]
      repeat walk_at "v"
      exact ⟨szr rfl, fun l nl => q' _ _ ⟨l, rfl, same_upd nl, by rw [if_neg g0]; exact upd_same⟩⟩
  obtain ⟨l, rfl, s4, hl4⟩ := e
  refine s_gname (nx_mk (s_seq ?_))
  have join : ∀ {t : TS} {D : Ends} {σ : L2.St} {H : Hp} (I : L2.St → Hp → Prop), (∀ N : L2.St → Hp → Prop, (∀ σ' H', I σ' H' → N σ' H') → t { nx := N, rt := D.rt, bk := D.bk, ct := D.ct } σ H) → (∀ σ' H', I σ' H' → D.nx σ' H') → t D σ H := fun {t D σ H} I h1 h2 => h1 D.nx h2
  refine join (fun σ' H' => ∃ l, σ' = [some (.int r), some (.int f), some (.str (gname g)), some (.str (oname s)), some (.int (numK r 1)), some (.int (numK r 0)), some (.ref dd), some (.ref l), none, none, none] ∧ Same H3 H' ∧ H' l = some (.lst (kvs (kindsG g)))) (fun N q' => ?_) ?_
  · repeat walk_at "v"
    refine eq_sc rfl ?_
    rw [show ("parts" : Str) = gname 2 from rfl, gname_ne hg 2 (by decide)]
    rcases c3 hg with rfl | rfl | rfl
    · rw [show decide ((0 : Nat) = 2) = false from rfl]
      repeat walk_at "v"
      exact q' _ _ ⟨l, rfl, s4, hl4⟩
    · rw [show decide ((1 : Nat) = 2) = false from rfl]
      repeat walk_at "v"
      exact q' _ _ ⟨l, rfl, s4, hl4⟩
    · rw [show decide ((2 : Nat) = 2) = true from rfl]
      repeat walk_at "v"
      refine ⟨szr rfl, fun e ne => ?_⟩
      have u5 := same_upd (o := .lst [.str "inner"]) ne
      repeat walk_at "v"
      refine cat_l upd_same (u5 _ _ hl4) (szr rfl) fun l2 nl2 => ?_
      repeat walk_at "v"
      exact q' _ _ ⟨l2, rfl, s4.trans (u5.trans (same_upd nl2)), upd_same⟩
  clear hl4 s4
  rintro σ' H5 ⟨l5, rfl, s5, hl5⟩
  have hd5 := s5 _ _ hd3
  have s05 := u3.trans s5
  clear hd3 u3 s5
  repeat walk_at "v"
  refine Or.inl fun d nD => ?_
  have u6 := same_upd (o := .dK []) nD
  have hD6 : (upd H5 d (.dK [])) d = some (.dK []) := upd_same
  have hd6 := u6 _ _ hd5
  have hl6 := u6 _ _ hl5
  have s06 := s05.trans u6
  have nD0 := none_bk s05 nD
  have dd_d : dd ≠ d := fun z => by rw [z, nD] at hd5; cases hd5
  have l_d : l5 ≠ d := fun z => by rw [z, nD] at hl5; cases hl5
  generalize upd H5 d (.dK []) = H6 at u6 hD6 hd6 hl6 s06 ⊢
  clear hd5 hl5 s05 u6
  repeat walk_at "v"
  refine s_forL ?_
  repeat walk_at "v"
  refine it_l C (.of hl6) ?_
  have kl : (kindsG g).length ≤ 4 := by rcases c3 hg with rfl | rfl | rfl <;> decide
  refine lp_list (xs := kvs (kindsG g)) (fun i σ H' => ∃ o9 o10, σ = [some (.int r), some (.int f), some (.str (gname g)), some (.str (oname s)), some (.int (numK r 1)), some (.int (numK r 0)), some (.ref dd), some (.ref l5), some (.ref d), o9, o10] ∧ SameX d H6 H' ∧ H' d = some (.dK (((((kindsG g).take i).filter (isBK r f g s)).map fun k => ((.inr (kname k) : Key), V.int (numK r k)))))) ⟨_, _, rfl, SameX.refl, hD6⟩ ?_ ?_ ?_
  · rintro i σ H' _ ⟨_, _, rfl, sx, _⟩
    exact .of (sx _ _ l_d hl6)
  · rintro i x σ H7 hx ⟨o9, o10, rfl, sx, hD7⟩
    obtain ⟨k, ek, rfl⟩ : ∃ k, (kindsG g)[i]? = some k ∧ V.str (kname k) = x := by
      unfold kvs at hx
      rw [List.getElem?_map] at hx
      cases e : (kindsG g)[i]? with
      | none => rw [e] at hx; cases hx
      | some k => rw [e] at hx; cases hx; exact ⟨k, rfl, rfl⟩
    have k4 := kindsG_l4 (List.mem_of_getElem? ek)
    obtain ⟨il, ei⟩ := List.getElem?_eq_some_iff.mp ek
    have tk : (kindsG g).take (i + 1) = (kindsG g).take i ++ [k] := by rw [List.take_succ_eq_append_getElem il, ei]
    have l4 : ∀ m ∈ ((kindsG g).take i).filter (isBK r f g s), m < 4 := fun m hm => kindsG_l4 (List.mem_of_mem_take (List.mem_filter.mp hm).1)
    have nk : k ∉ ((kindsG g).take i).filter (isBK r f g s) := fun h => by
      obtain ⟨j, hj⟩ := List.getElem?_of_mem (List.mem_filter.mp h).1
      rw [List.getElem?_take] at hj
      split at hj
      · rename_i ji
        have := (List.getElem?_inj (by omega : j < (kindsG g).length) (kindsG_nd hg)).mp (hj.trans ek.symm)
        omega
      · cases hj
    have no : isBK r f g s k = false → ∀ H' o9' o10', SameX d H6 H' → H' d = some (.dK ((((kindsG g).take i).filter (isBK r f g s)).map fun k => ((.inr (kname k) : Key), V.int (numK r k)))) →
        ∃ o9 o10, ([some (.int r), some (.int f), some (.str (gname g)), some (.str (oname s)), some (.int (numK r 1)), some (.int (numK r 0)), some (.ref dd), some (.ref l5), some (.ref d), o9', o10'] : L2.St) = [some (.int r), some (.int f), some (.str (gname g)), some (.str (oname s)), some (.int (numK r 1)), some (.int (numK r 0)), some (.ref dd), some (.ref l5), some (.ref d), o9, o10] ∧ SameX d H6 H' ∧ H' d = some (.dK ((((kindsG g).take (i + 1)).filter (isBK r f g s)).map fun k => ((.inr (kname k) : Key), V.int (numK r k)))) := fun nb H' o9' o10' sx' hd' => ⟨o9', o10', rfl, sx', by
      rw [tk, List.filter_append, show List.filter (isBK r f g s) [k] = [] from by rw [List.filter_cons, nb]; rfl, List.append_nil]
      exact hd'⟩
    repeat walk_at "v"
    refine cv_fn C (ok__law_after T) (by omega) ⟨r, f, k, rfl, k4, fun l8 H8 nl8 s8 hl8 => ?_⟩
    have hd8 := s8 _ _ (sx _ _ dd_d hd6)
    have hD8 := s8 _ _ hD7
    have sx8 : SameX d H6 H8 := sx.trans (Same_x s8)
    repeat walk_at "v"
    refine ix_d C (v := .int (numK r k)) (.inl ⟨_, .inr (kname k), .inl hd8, rfl, (numD_at _ k4).symm⟩) ?_
    repeat walk_at "v"
    by_cases kn : 0 < numK r k
    rotate_left
    · rw [decide_eq_false kn]
      repeat walk_at "v"
      exact no (by unfold isBK; rw [decide_eq_false kn]; rfl) _ _ _ sx8 hD8
    obtain ⟨z0, z1, zb⟩ := stK_ok hf r0 k4 kn
    rw [decide_eq_true kn]
    repeat walk_at "v"
    refine ix_l C (v := .int (stK r f k).1) (.of hl8) rfl ?_
    repeat walk_at "v"
    refine ix_l C (v := .int (stK r f k).2) (.of hl8) rfl ?_
    repeat walk_at "v"
    refine cv_fn C (ok__law_cost T) (by omega) ⟨_, _, g, s, rfl, z0, by omega, zb, hg, ?_⟩
    repeat walk_at "v"
    refine cv_fn C (ok__law_cost T) (by omega) ⟨r, f, g, s, rfl, r0, by omega, hf, hg, ?_⟩
    repeat walk_at "v"
    by_cases lt : cN (stK r f k).1 (stK r f k).2 g s < cN r f g s
    rotate_left
    · rw [decide_eq_false lt]
      repeat walk_at "v"
      exact no (by unfold isBK; rw [decide_eq_false lt, Bool.and_false]) _ _ _ sx8 hD8
    rw [decide_eq_true lt]
    repeat walk_at "v"
    refine ix_d C (v := .int (numK r k)) (.inl ⟨_, .inr (kname k), .inl hd8, rfl, (numD_at _ k4).symm⟩) ?_
    repeat walk_at "v"
    have yes : isBK r f g s k = true := by unfold isBK; rw [decide_eq_true kn, decide_eq_true lt]; rfl
    refine set_d C (.k (k := .inr (kname k)) hD8 (by rw [List.length_map]; exact Nat.lt_of_le_of_lt (Nat.le_trans (List.length_filter_le _ _) (Nat.le_trans (List.length_take_le' _ _) kl)) (by decide))) ?_
    rw [putK_new _ (valV_no _ k4 l4 nk)]
    refine ⟨_, _, rfl, fun b o nb e => by rw [upd_ne nb]; exact sx8 _ _ nb e, ?_⟩
    rw [upd_same, tk, List.filter_append, show List.filter (isBK r f g s) [k] = [k] from by rw [List.filter_cons, yes]; rfl, List.map_append]
    rfl
  · rintro σ H7 ⟨o9, o10, rfl, sx, hD7⟩
    rw [show (kvs (kindsG g)).length = (kindsG g).length from List.length_map .., List.take_length] at hD7
    repeat walk_at "v"
    exact q d H7 nD0 (fun b o e => sx _ _ (ne_of_none e nD0) (s06 _ _ e)) hD7
end

section
theorem ix_map {α : Type} {f : α → V} {l : List α} {i : Nat} {x : V} (h : (l.map f)[i]? = some x) : ∃ a, l[i]? = some a ∧ x = f a := by
  rw [List.getElem?_map] at h
  cases e : l[i]? with
  | none => rw [e] at h; cases h
  | some a => rw [e] at h; cases h; exact ⟨a, rfl, rfl⟩
end

section
variable {P : Program} {w : World} {K : PySem.W.Frag} {mg : Str → Option Value} {base : Heap}
/-! ### best flips, listed in rising order -/
theorem FlipAt.ext {H H' : Hp} {f : Addr} {i j : Int} (h : FlipAt K H f i j) (e : Vc.Ext H H') : FlipAt K H' f i j := let ⟨dx, a⟩ := h; ⟨dx, e _ _ a fun _ z => by cases z⟩
def spListed (K : PySem.W.Frag) : Sp := fun vs H Q _ => ∃ p c ns g s, vs = [.ref p, .str (gname g), .str (oname s), .int (numS ns.length c g s)] ∧ RowAt K H p c ns ∧ Nf c ns ∧ ns.length ≤ 2000 ∧ g < 3 ∧ numS ns.length c g s ≤ 20000 ∧ TabZ K H ∧ ∀ H', Vc.Ext H H' → TabZ K H' → Q (.bl true) H'
theorem lexL_strict {qs : List (Int × Int)} (h : LexL qs) (nd : qs.Nodup) {i : Nat} {a b : Int × Int} (ha : qs[i]? = some a) (hb : qs[i + 1]? = some b) : ¬ (b.1 < a.1 ∨ (a.1 = b.1 ∧ b.2 ≤ a.2)) := by
  obtain ⟨i1, e1⟩ := List.getElem?_eq_some_iff.mp ha
  obtain ⟨i2, e2⟩ := List.getElem?_eq_some_iff.mp hb
  have hp := List.pairwise_iff_getElem.mp h i (i + 1) i1 i2 (Nat.lt_succ_self i)
  have hn := List.pairwise_iff_getElem.mp nd i (i + 1) i1 i2 (Nat.lt_succ_self i)
  rw [e1, e2] at hp hn
  rintro (z | ⟨z1, z2⟩)
  · omega
  · refine hn (Prod.ext z1 ?_)
    omega
theorem ok__law_listed [PF P] [TabF K mg base ("plain_best_flips", none)] (T : TX K mg) : FnS P w K mg base (He.ga K "_law_listed") 10 ["_law_row", "_law_game", "_law_goal", "_law_number"] (spListed K) := by
  refine mk__law_listed T (fun vs H Q E h => ?_) (fun X vs H Q E C h => ?_)
  · obtain ⟨p, c, ns, g, s, rfl, _⟩ := h
    rfl
  obtain ⟨p, c, ns, g, s, rfl, hr, nf, hl, hg, hn, hT, q⟩ := h
  unfold r__law_listed
  refine s_seq (s_asg (s_lcA C ?_))
  repeat walk_at "v"
  refine cv_fn C (ok_best_flips T) (by omega) ⟨p, c, ns, _, _, _, _, rfl, hr, .str, .str, .inr ⟨g, s, hg, rfl, rfl, nf, hl, hT, fun _ b qs H1 nb e1 t1 pl pm lx => ?_, fun z => by omega⟩⟩
  obtain ⟨fs, hb, fl, fq⟩ := pl
  have ql : (qs.length : Int) = numS ns.length c g s := by rw [pm.length_eq]; exact bestF_length ns c g s
  have nd : qs.Nodup := pm.nodup_iff.mpr (bestF_nodup nf hg s)
  repeat walk_at "v"
  refine it_l C (.of hb) ?_
  refine lc_rel (.of hb) (sz2 (by rw [List.length_map]; omega)) (fun H y i => ∃ t p, qs[i]? = some p ∧ y = .ref t ∧ H t = some (.tup [.int p.1, .int p.2])) (fun {H1 H2 D zs y i} hD s h => ?_) (fun i x H' R hx sm rr => ?_) (fun D H2 ys nD s2 hD len hy => ?_)
  · obtain ⟨t, p, e, rfl, ht⟩ := h
    exact ⟨t, p, e, rfl, s _ _ (fun z => by rw [z, hD] at ht; cases ht) ht⟩
  · obtain ⟨f, ef, rfl⟩ := ix_map hx
    have il : i < qs.length := by rw [← fl]; exact (List.getElem?_eq_some_iff.mp ef).1
    have eq := List.getElem?_eq_getElem il
    obtain ⟨hf, _⟩ := fq i f _ ef eq
    generalize qs[i] = pp at eq hf
    refine s_gname ⟨rfl, fun Y bk => ?_⟩
    have CY := C.blk bk
    repeat walk_at "v"
    refine flip_prop T CY (by omega) (p_Flip_start T) (ok_Flip_start T) (hf.same sm) ?_
    repeat walk_at "v"
    refine flip_prop T CY (by omega) (p_Flip_end T) (ok_Flip_end T) (hf.same sm) ?_
    repeat walk_at "v"
    exact ⟨szr rfl, fun t nt => rr _ _ (same_upd nt) ⟨t, pp, eq, rfl, upd_same⟩⟩
  rw [List.length_map, fl] at len
  have e2 : Vc.Ext H H2 := LamX.ExtN.trans e1 (Vc.Same.ext s2)
  have t2 := TabZ.same t1 s2
  clear s2 e1 t1 hb fq
  repeat walk_at "v"
  refine len_l C (.of hD) ?_
  repeat walk_at "v"
  rw [len, ql, decide_eq_true rfl]
  repeat walk_at "v"
  refine s_lc2 C (m_range T C) ?_
  repeat walk_at "v"
  refine ⟨_, _, rfl, ⟨by decide, by decide, by omega, by omega⟩, ?_⟩
  intro D3 nD3
  refine lc_range (fun i H' => Same H2 H' ∧ H' D3 = some (.lst [])) ⟨same_upd nD3, upd_same⟩ (fun i H' hi p => ?_) (fun H5 p => ?_)
  · obtain ⟨s3, hD3⟩ := p
    refine s_gname ⟨rfl, ?_⟩
    intro Y bk
    have CY := C.blk bk
    have il : i + 1 < qs.length := by
      have : (numS ns.length c g s - 1).toNat = qs.length - 1 := by omega
      omega
    have y1 : ys[i]? = some ys[i] := List.getElem?_eq_getElem (by omega)
    have y2 : ys[i + 1]? = some ys[i + 1] := List.getElem?_eq_getElem (by omega)
    obtain ⟨a1, p1, q1, z1, h1⟩ := hy i _ y1
    obtain ⟨a2, p2, q2, z2, h2⟩ := hy (i + 1) _ y2
    have e1 : atI ys ((i : Nat) : Int) = some (.ref a1) := at_of (j := i) rfl (by rw [y1, z1])
    have e2' : atI ys (((i + 1 : Nat)) : Int) = some (.ref a2) := at_of (j := i + 1) rfl (by rw [y2, z2])
    repeat walk_at "v"
    rw [show (1 : Int) + (i : Nat) - 1 = ((i : Nat) : Int) from by omega]
    refine ix_l CY (.of (s3 _ _ hD)) e1 ?_
    repeat walk_at "v"
    rw [show (1 : Int) + (i : Nat) = ((i + 1 : Nat) : Int) from by omega]
    refine ix_l CY (.of (s3 _ _ hD)) e2' ?_
    refine ge_pp CY (s3 _ _ h1) (s3 _ _ h2) ?_
    rw [decide_eq_false (lexL_strict lx nd q1 q2)]
    repeat walk_at "v"
    exact ⟨s3, hD3⟩
  obtain ⟨s5, hD5⟩ := p
  repeat walk_at "v"
  refine ⟨szr rfl, fun e ne => ?_⟩
  have u6 := same_upd (o := .lst []) ne
  refine eq_il C (is := []) (js := []) (.of (u6 _ _ hD5)) (.of upd_same) ?_
  exact q _ (LamX.ExtN.trans e2 (Vc.Same.ext (s5.trans u6))) (TabZ.same t2 (s5.trans u6))
end

section
variable {P : Program} {w : World} {K : PySem.W.Frag} {mg : Str → Option Value} {base : Heap} {k j : Nat} {X : Cx} {W : WX} {σ : L2.St} {H : Hp} {Q : VK}
/-! ### what the law tells of a call -/
def telL (Q : VK) (H' : Hp) : Prop := ∀ l, H' l = none → Q (.ref l) (upd H' l (.lst [.str "many", .int 20000, .bl true]))
def outE (K : PySem.W.Frag) (Q : VK) : XK := fun cls d H' => (cls = .ref (He.ga K "LimitExceeded") ∧ ∃ d0, d = some d0 ∧ H' d0 = some (.xd [(("limit" : Str), .int 20000)]) ∧ telL Q H') ∨ (cls = .ref (He.ga K "InvalidGame") ∧ d = none ∧ Q (.str "game") H') ∨ (cls = .ref (He.ga K "InvalidGoal") ∧ d = none ∧ Q (.str "goal") H')
theorem outcome {y : Str} {tb : Cx → TE} (T : TX K mg) (C : Ctx P w K mg base k X W) [TabF K mg base (y, none)] (d : IsDef K y X) (hj : j + 2 ≤ k) (hT : TabH K H y) (zs : List Str) (hz : ∀ z ∈ zs, (He.cT K (z, none)).2 ≠ (He.cT K (y, none)).2 ∧ TabH K H z)
    (hb : ∀ H1, Vc.Ext H H1 → TabH K H1 y → (∀ z ∈ zs, TabH K H1 z) → ∀ Y, Ctx P w K mg base j Y (fun cls d _ H' => outE K Q cls d H') → tb Y σ H1 Q) : tLamR X "_law_outcome" tb σ H Q := by
  refine lamZ__law_outcome T C d hj hT zs hz fun H1 f c' eN T1 Z1 hc Z CZ act => ?_
  unfold r__law_outcome
  refine s_tryN (.cons (g_LimitExceeded T CZ).name (.cons (g_InvalidGame T CZ).name (.cons (g_InvalidGoal T CZ).name .nil))) fun pn xe tk => ?_
  repeat walk_at "v"
  refine ⟨_, rfl, act pn xe _ tk _ _ _ hc fun Y CY => ?_⟩
  refine hb H1 eN T1 Z1 Y (CY.imp fun cls d' σ' H' h => ?_)
  rcases h with ⟨rfl, d0, rfl, hx, h⟩ | ⟨rfl, rfl, h⟩ | ⟨rfl, rfl, h⟩
  · refine ⟨true, by rw [CZ.K]; exact x_LimitExceeded_LimitExceeded T, fun _ a ha oe pn hz hf => ?_, fun z => nomatch z⟩
    dsimp only [endA, setA]
    refine s_ret ?_
    repeat walk_at "v"
    refine atr_exc CZ (xf_LimitExceeded T) (ei_LimitExceeded T).nf hz hf hx rfl ?_
    repeat walk_at "v"
    refine s_call (g_isinstance T CZ).suite ?_
    repeat walk_at "v"
    refine s_gloT (g_OverflowError T CZ).suite ?_
    repeat walk_at "v"
    refine isi_excD CZ (ec_LimitExceeded T) hz hf hx (fun u r => r) (o_LimitExceeded_OverflowError T) ?_
    repeat walk_at "v"
    exact ⟨szr rfl, fun e2 ne2 => h e2 ne2⟩
  · refine ⟨false, by rw [CZ.K]; exact x_InvalidGame_LimitExceeded T, (fun z => nomatch z), fun _ => ⟨true, by rw [CZ.K]; exact x_InvalidGame_InvalidGame T, fun _ a ha oe pn hz hf => ?_, fun z => nomatch z⟩⟩
    dsimp only [endA, setA]
    repeat walk_at "v"
    exact h
  · refine ⟨false, by rw [CZ.K]; exact x_InvalidGoal_LimitExceeded T, (fun z => nomatch z), fun _ => ⟨false, by rw [CZ.K]; exact x_InvalidGoal_InvalidGame T, (fun z => nomatch z), fun _ => ⟨true, by rw [CZ.K]; exact x_InvalidGoal_InvalidGoal T, fun _ a ha oe pn hz hf => ?_, fun z => nomatch z⟩⟩⟩
    dsimp only [endA, setA]
    repeat walk_at "v"
    exact h
end

section
/-! ### plain: kinds of the best flips, counted -/
theorem kind_fK {c : Int} {ns : List Int} (x : Nf c ns) {k a b : Nat} (hk : k < 4) (hn : 0 < numK ns.length k) (h : (a, b) ∈ fK ns.length k) :
    kindN ((flipR c ns (bo ns a) (bo ns b)).2.length - ns.length) (bo ns a) (bo ns b) ns.sum = some k := by
  obtain ⟨hab, hb, k0, k1, k2, k3, _⟩ := fk_ok x hk hn h
  obtain ⟨p0, p1, p2, e1, e2⟩ := pair_ok x hab hb
  have st := congrArg Prod.fst (fk_state x hk hn h)
  have st : ((flipR c ns (bo ns a) (bo ns b)).2.length : Int) = (stK ns.length c k).1 := st
  rw [st]
  unfold kindN
  rcases c4 hk with rfl | rfl | rfl | rfl
  · obtain ⟨q1, q2⟩ := k0 rfl
    have q1 := e1.mpr q1
    have q2 := e2.mpr q2
    rw [if_neg (by omega), if_pos ⟨q1, q2⟩, if_pos (by show (ns.length : Int) - 2 - _ = _; omega)]
  · obtain ⟨q1, q2⟩ := k1 rfl
    have q2 := e2.mpr q2
    subst q1
    rw [bo_0] at *
    rw [if_neg (by omega), if_neg (by omega), if_neg (by show ¬ ((ns.length : Int) - 1 - _ ≠ _); omega), if_pos rfl]
  · obtain ⟨q1, q2⟩ := k2 rfl
    have q1 := e1.mpr q1
    subst q2
    rw [bo_all ns (Nat.le_refl _)] at *
    rw [if_neg (by omega), if_neg (by omega), if_neg (by show ¬ ((ns.length : Int) - 1 - _ ≠ _); omega), if_neg (by omega)]
  · obtain ⟨q1, q2⟩ := k3 rfl
    subst q1
    subst q2
    rw [bo_0, bo_all ns (Nat.le_refl _), if_pos ⟨rfl, rfl⟩]
/-- the kind of a flip, as a number -/
def kdP (c : Int) (ns : List Int) (p : Int × Int) : Nat := (kindN ((flipR c ns p.1 p.2).2.length - ns.length) p.1 p.2 ns.sum).getD 0
theorem kdP_some {c : Int} {ns : List Int} (x : Nf c ns) {g : Nat} {s : Bool} {p : Int × Int} (h : p ∈ bestF ns c g s) : kindN ((flipR c ns p.1 p.2).2.length - ns.length) p.1 p.2 ns.sum = some (kdP c ns p) ∧ kdP c ns p ∈ bestK ns.length c g s := by
  obtain ⟨k, a, b, hk, hf, rfl⟩ := mem_bestF.mp h
  have e := kind_fK x (kindsG_l4 (mem_bestK.mp hk).1) (mem_bestK.mp hk).2.1 hf
  unfold kdP
  show kindN _ (bo ns a) (bo ns b) _ = some ((kindN _ (bo ns a) (bo ns b) _).getD 0) ∧ (kindN _ (bo ns a) (bo ns b) _).getD 0 ∈ _
  rw [e]
  exact ⟨rfl, hk⟩
theorem bestK_nodup (r c : Int) {g : Nat} (hg : g < 3) (s : Bool) : (bestK r c g s).Nodup := List.Nodup.sublist (l₂ := kindsG g) List.filter_sublist (by rcases c3 hg with rfl | rfl | rfl <;> decide)
theorem bestK_sorted (r c : Int) {g : Nat} (hg : g < 3) (s : Bool) : (bestK r c g s).Pairwise (· < ·) := List.Pairwise.sublist (l₂ := kindsG g) List.filter_sublist (by rcases c3 hg with rfl | rfl | rfl <;> decide)
theorem count_kfl {c : Int} {ns : List Int} (x : Nf c ns) {m k : Nat} (hk : k < 4) (hn : 0 < numK ns.length k) : (((kfl ns k).map (kdP c ns)).count m : Int) = if k = m then numK ns.length k else 0 := by
  have e : (kfl ns k).map (kdP c ns) = List.replicate (fK ns.length k).length k := by
    unfold kfl
    rw [List.map_map]
    refine List.eq_replicate_iff.mpr ⟨List.length_map .., fun b hb => ?_⟩
    obtain ⟨⟨a, b'⟩, hm, rfl⟩ := List.mem_map.mp hb
    have q := kind_fK x hk hn hm
    show (kindN (((flipR c ns (bo ns a) (bo ns b')).2.length : Int) - ns.length) (bo ns a) (bo ns b') ns.sum).getD 0 = k
    rw [q]
    rfl
  rw [e, List.count_replicate]
  by_cases h : k = m
  · subst h
    simp only [beq_self_eq_true, if_true]
    exact fK_len hk hn
  · rw [if_neg h, if_neg (by simpa using h)]
    rfl
theorem count_flat {c : Int} {ns : List Int} (x : Nf c ns) {m : Nat} : ∀ {l : List Nat}, l.Nodup → (∀ k ∈ l, k < 4 ∧ 0 < numK ns.length k) → (((l.flatMap (kfl ns)).map (kdP c ns)).count m : Int) = if m ∈ l then numK ns.length m else 0
  | [], _, _ => rfl
  | k :: l, nd, h => by
    obtain ⟨h1, h2⟩ := List.nodup_cons.mp nd
    obtain ⟨hk, hn⟩ := h k List.mem_cons_self
    have ih := count_flat (c := c) x (m := m) h2 fun k hk => h k (List.mem_cons_of_mem _ hk)
    rw [List.flatMap_cons, List.map_append, List.count_append, Int.natCast_add, ih, count_kfl x hk hn]
    by_cases e : k = m
    · subst e
      rw [if_pos rfl, if_neg h1, if_pos List.mem_cons_self, Int.add_zero]
    · rw [if_neg e, Int.zero_add]
      by_cases q : m ∈ l
      · rw [if_pos q, if_pos (List.mem_cons_of_mem _ q)]
      · rw [if_neg q, if_neg (fun z => (List.mem_cons.mp z).elim (fun z => e z.symm) q)]
/-- how often each kind is met among the best flips -/
theorem count_best_kinds {c : Int} {ns : List Int} (x : Nf c ns) {g : Nat} (hg : g < 3) {s : Bool} {qs : List (Int × Int)} (pm : qs.Perm (bestF ns c g s)) (m : Nat) : ((qs.map (kdP c ns)).count m : Int) = if m ∈ bestK ns.length c g s then numK ns.length m else 0 := by
  rw [(pm.map (kdP c ns)).count_eq]
  exact count_flat x (bestK_nodup _ c hg s) fun k hk => ⟨kindsG_l4 (mem_bestK.mp hk).1, (mem_bestK.mp hk).2.1⟩
theorem mem_best_kinds {c : Int} {ns : List Int} (x : Nf c ns) {g : Nat} (hg : g < 3) {s : Bool} {qs : List (Int × Int)} (pm : qs.Perm (bestF ns c g s)) (m : Nat) : m ∈ qs.map (kdP c ns) ↔ m ∈ bestK ns.length c g s := by
  have e := count_best_kinds x hg pm m
  rw [← List.count_pos_iff]
  by_cases h : m ∈ bestK ns.length c g s
  · rw [if_pos h] at e
    have := (mem_bestK.mp h).2.1
    exact ⟨fun _ => h, fun _ => by omega⟩
  · rw [if_neg h] at e
    exact ⟨fun q => by omega, fun q => absurd q h⟩
/-- the dict that the law makes of kinds -/
theorem merge_kinds (f : Nat → Int) : ∀ (l ms : List Nat), (∀ k ∈ l, k < 4) → (∀ k ∈ ms, k < 4) → ms.Nodup → ∃ ms' : List Nat, L2.mergeK (ms.map fun k => ((.inr (kname k) : Key), V.int (f k))) (l.map fun k => (.inr (kname k), V.int (f k))) = ms'.map (fun k => (.inr (kname k), V.int (f k))) ∧ ms'.Nodup ∧ (∀ k, k ∈ ms' ↔ k ∈ ms ∨ k ∈ l) 
  | [], ms, _, _, nd => ⟨ms, rfl, nd, fun k => by simp⟩
  | a :: l, ms, hl, hm, nd => by
    have ha := hl a List.mem_cons_self
    have hl' := fun k hk => hl k (List.mem_cons_of_mem a hk)
    by_cases h : a ∈ ms
    · have e : L2.putK (ms.map fun k => ((.inr (kname k) : Key), V.int (f k))) (.inr (kname a)) (.int (f a)) = ms.map fun k => (.inr (kname k), V.int (f k)) := by
        unfold L2.putK
        rw [if_pos (by rw [List.any_map, List.any_eq_true]; exact ⟨a, h, by simp⟩), List.map_map]
        refine List.map_congr_left fun k hk => ?_
        show (if (Sum.inr (kname k) : Key) = .inr (kname a) then ((.inr (kname k) : Key), V.int (f a)) else (.inr (kname k), V.int (f k))) = _
        by_cases q : (Sum.inr (kname k) : Key) = .inr (kname a)
        · rw [if_pos q, kname_inj (hm k hk) ha (Sum.inr.inj q)]
        · rw [if_neg q]
      obtain ⟨ms', h1, h2, h3⟩ := merge_kinds f l ms hl' hm nd
      refine ⟨ms', ?_, h2, fun k => ?_⟩
      · show L2.mergeK (L2.putK _ _ _) _ = _
        rw [e]
        exact h1
      · rw [h3]
        constructor
        · rintro (q | q)
          · exact .inl q
          · exact .inr (List.mem_cons_of_mem _ q)
        · rintro (q | q)
          · exact .inl q
          · rcases List.mem_cons.mp q with rfl | q
            · exact .inl h
            · exact .inr q
    · have e : L2.putK (ms.map fun k => ((.inr (kname k) : Key), V.int (f k))) (.inr (kname a)) (.int (f a)) = (ms ++ [a]).map fun k => (.inr (kname k), V.int (f k)) := by
        unfold L2.putK
        rw [if_neg (by
          rw [List.any_map, List.any_eq_true]
          rintro ⟨k, hk, q⟩
          have q : (Sum.inr (kname k) : Key) = .inr (kname a) := of_decide_eq_true q
          exact h (kname_inj (hm k hk) ha (Sum.inr.inj q) ▸ hk)), List.map_append]
        rfl
      obtain ⟨ms', h1, h2, h3⟩ := merge_kinds f l (ms ++ [a]) hl' (fun k hk => (List.mem_append.mp hk).elim (hm k) fun q => by rw [List.mem_singleton.mp q]; exact ha) (by
        rw [List.nodup_append]
        exact ⟨nd, by simp, fun p hp q hq z => by rw [List.mem_singleton.mp hq] at z; exact h (z ▸ hp)⟩)
      refine ⟨ms', ?_, h2, fun k => ?_⟩
      · show L2.mergeK (L2.putK _ _ _) _ = _
        rw [e]
        exact h1
      · rw [h3, List.mem_append, List.mem_singleton, List.mem_cons, or_assoc]
theorem valV_kinds (f : Nat → Int) {m : Nat} (hm : m < 4) : ∀ {ms : List Nat}, (∀ k ∈ ms, k < 4) → m ∈ ms → L2.valV (ms.map fun k => ((.inr (kname k) : Key), V.int (f k))) (.inr (kname m)) = some (.int (f m))
  | [], _, h => nomatch h
  | a :: ms, hl, h => by
    by_cases e : a = m
    · subst e
      exact L2.valV_pos rfl
    · rw [List.map_cons, L2.valV_neg (fun q => e (kname_inj (hl a List.mem_cons_self) hm (Sum.inr.inj q)))]
      exact valV_kinds f hm (fun k hk => hl k (List.mem_cons_of_mem _ hk)) ((List.mem_cons.mp h).resolve_left fun q => e q.symm)
theorem kname_lt {a b : Nat} (ha : a < 4) (hb : b < 4) : ltCps (kname a).cps.toList (kname b).cps.toList = decide (a < b) := by
  rcases c4 ha with rfl | rfl | rfl | rfl <;> rcases c4 hb with rfl | rfl | rfl | rfl <;> decide +kernel
theorem rising_kinds : ∀ {ms : List Nat} {a : Nat}, a < 4 → (∀ k ∈ ms, k < 4) → PyProof.Rows.risingS (kname a) (ms.map kname) = true → (a :: ms).Pairwise (· ≤ ·)
  | [], a, _, _, _ => List.pairwise_singleton _ _
  | b :: ms, a, ha, hl, h => by
    have hb := hl b List.mem_cons_self
    have h : (!ltCps (kname b).cps.toList (kname a).cps.toList && PyProof.Rows.risingS (kname b) (ms.map kname)) = true := h
    rw [Bool.and_eq_true, kname_lt hb ha] at h
    have ih := rising_kinds hb (fun k hk => hl k (List.mem_cons_of_mem _ hk)) h.2
    have le : a ≤ b := by have := h.1; simp at this; exact this
    refine List.pairwise_cons.mpr ⟨fun k hk => ?_, ih⟩
    rcases List.mem_cons.mp hk with rfl | hk
    · exact le
    · exact Nat.le_trans le ((List.pairwise_cons.mp ih).1 k hk)
theorem sorted_kinds {ms : List Nat} (hl : ∀ k ∈ ms, k < 4) (h : PyProof.Rows.sortedS (ms.map kname) = true) : ms.Pairwise (· ≤ ·) := by
  cases ms with
  | nil => exact .nil
  | cons a ms => exact rising_kinds (hl a List.mem_cons_self) (fun k hk => hl k (List.mem_cons_of_mem _ hk)) h
/-- names of kinds, sorted, are the names in the kinds' order -/
theorem sorted_names {ms bk : List Nat} {ys : List Str} (hl : ∀ k ∈ bk, k < 4) (nd : ms.Nodup) (mem : ∀ k, k ∈ ms ↔ k ∈ bk) (hb : bk.Pairwise (· < ·)) (pm : ys.Perm (ms.map kname)) (st : PyProof.Rows.sortedS ys = true) : ys = bk.map kname := by
  obtain ⟨zs, rfl, pz⟩ : ∃ zs : List Nat, ys = zs.map kname ∧ zs.Perm ms := by
    have lt : ∀ y ∈ ys, ∃ z, z < 4 ∧ y = kname z := fun y hy => by
      obtain ⟨z, hz, rfl⟩ := List.mem_map.mp (pm.mem_iff.mp hy)
      exact ⟨z, hl z ((mem z).mp hz), rfl⟩
    have : ∀ ys : List Str, (∀ y ∈ ys, ∃ z, z < 4 ∧ y = kname z) → ∃ zs : List Nat, ys = zs.map kname ∧ ∀ z ∈ zs, z < 4 := by
      intro ys
      induction ys with
      | nil => exact fun _ => ⟨[], rfl, fun z hz => nomatch hz⟩
      | cons y ys ih =>
        intro h
        obtain ⟨z, hz, rfl⟩ := h y List.mem_cons_self
        obtain ⟨zs, rfl, h2⟩ := ih fun y hy => h y (List.mem_cons_of_mem _ hy)
        exact ⟨z :: zs, rfl, fun k hk => (List.mem_cons.mp hk).elim (fun e => e ▸ hz) (h2 k)⟩
    obtain ⟨zs, rfl, h4⟩ := this ys lt
    have inj : ∀ a ∈ zs, ∀ b, b < 4 → kname a = kname b → a = b := fun a ha b hb e => kname_inj (h4 a ha) hb e
    refine ⟨zs, rfl, ?_⟩
    have ndn : (ms.map kname).Nodup := List.pairwise_map.mpr (nd.imp_of_mem fun {a b} ha hb ne e => ne (kname_inj (hl a ((mem a).mp ha)) (hl b ((mem b).mp hb)) e))
    have ndz : zs.Nodup := (List.pairwise_map.mp (pm.nodup_iff.mpr ndn)).imp fun {a b} h e => h (by rw [e])
    refine (List.perm_ext_iff_of_nodup ndz nd).mpr fun k => ⟨fun hk => ?_, fun hk => ?_⟩
    · obtain ⟨m, hm, e⟩ := List.mem_map.mp (pm.mem_iff.mp (List.mem_map_of_mem hk))
      rw [inj k hk m (hl m ((mem m).mp hm)) e.symm]
      exact hm
    · obtain ⟨z, hz, e⟩ := List.mem_map.mp (pm.mem_iff.mpr (List.mem_map_of_mem (f := kname) hk))
      rw [← inj z hz k (hl k ((mem k).mp hk)) e]
      exact hz
  have h4 : ∀ k ∈ zs, k < 4 := fun k hk => hl k ((mem k).mp (pz.mem_iff.mp hk))
  have s1 := sorted_kinds h4 st
  have pz2 : zs.Perm bk := pz.trans ((List.perm_ext_iff_of_nodup nd (hb.imp fun h => Nat.ne_of_lt h)).mpr mem)
  rw [List.Perm.eq_of_pairwise (le := fun a b : Nat => a ≤ b) (fun a b _ _ h1 h2 => Nat.le_antisymm h1 h2) s1 (hb.imp fun h => Nat.le_of_lt h) pz2]
end

section
/-! ### lists of kinds' names as data -/
def dkn (L : List Nat) : List PyData := L.map fun k => PyData.str (kname k)
theorem kn_ok {k : Nat} (h : k < 4) : PyData.strOk (kname k) = true := by rcases c4 h with rfl | rfl | rfl | rfl <;> decide +kernel
theorem dkn_sha (L : List Nat) (h : ∀ k ∈ L, k < 4) : SeqAt.shaped (.list (dkn L)) = true := by
  have h1 : ∀ L : List Nat, PyData.depthAll (dkn L) ≤ 4 := by
    intro L
    induction L with
    | nil => simp [dkn, PyData.depthAll]
    | cons p ps ih => simp only [dkn, List.map_cons, PyData.depthAll, PyData.depth] at *; omega
  have h2 : ∀ L : List Nat, (∀ k ∈ L, k < 4) → PyData.canLayAll0 (dkn L) = true := by
    intro L
    induction L with
    | nil => intro _; simp [dkn, PyData.canLayAll0]
    | cons p ps ih =>
      intro hb
      have := ih fun t ht => hb t (List.mem_cons_of_mem _ ht)
      have hp := kn_ok (hb p List.mem_cons_self)
      show (PyData.canLay0 (.str (kname p)) && PyData.canLayAll0 (dkn ps)) = true
      rw [this, Bool.and_true]
      show PyData.strOk (kname p) = true
      exact hp
  have h3 : PyData.depth (.list (dkn L)) ≤ 64 := by
    have := h1 L
    simp only [PyData.depth]
    omega
  show (PyData.canLay0 (.list (dkn L)) && decide (PyData.depth (.list (dkn L)) ≤ 64)) = true
  rw [Bool.and_eq_true]
  exact ⟨by simp only [PyData.canLay0]; exact h2 L h, decide_eq_true h3⟩
theorem kn_sha {k : Nat} (h : k < 4) : SeqAt.shaped (.str (kname k)) = true := by rcases c4 h with rfl | rfl | rfl | rfl <;> decide +kernel
theorem kn_eqv {a b : Nat} (ha : a < 4) (hb : b < 4) : PyData.eqv (.str (kname a)) (.str (kname b)) = decide (a = b) := by
  rcases c4 ha with rfl | rfl | rfl | rfl <;> rcases c4 hb with rfl | rfl | rfl | rfl <;> decide +kernel
theorem dkn_count {L : List Nat} (h : ∀ k ∈ L, k < 4) {m : Nat} (hm : m < 4) : ((dkn L).countP fun z => PyData.eqv z (.str (kname m))) = L.count m := by
  induction L with
  | nil => rfl
  | cons a L ih =>
    have e := ih fun k hk => h k (List.mem_cons_of_mem _ hk)
    show (PyData.str (kname a) :: dkn L).countP _ = _
    rw [List.countP_cons, e, List.count_cons, kn_eqv (h a List.mem_cons_self) hm]
    by_cases q : a = m
    · subst q
      simp
    · simp [q]
theorem dkn_refl : ∀ {L : List Nat}, (∀ k ∈ L, k < 4) → PyData.eqv (.list (dkn L)) (.list (dkn L)) = true := by
  have : ∀ L : List Nat, (∀ k ∈ L, k < 4) → PyData.eqvAll (dkn L) (dkn L) = true := by
    intro L
    induction L with
    | nil => intro _; simp [dkn, PyData.eqvAll]
    | cons p ps ih =>
      intro h
      show (PyData.eqv (.str (kname p)) (.str (kname p)) && PyData.eqvAll (dkn ps) (dkn ps)) = true
      rw [kn_eqv (h p List.mem_cons_self) (h p List.mem_cons_self), ih fun k hk => h k (List.mem_cons_of_mem _ hk), decide_eq_true rfl]
      rfl
  intro L h
  simp only [PyData.eqv]
  exact this L h
end
section
variable {P : Program} {w : World} {K : PySem.W.Frag} {mg : Str → Option Value} {base : Heap}
theorem dkn_dp {H : Hp} : ∀ L : List Nat, DpAll K H (kvs L) (dkn L)
  | [] => .nil
  | _ :: L => .cons (.str _) (dkn_dp L)
/-- what of a name is its number of times in a list of kinds -/
def cntV (L : List Nat) : V → V
  | .str z => .int ((L.countP fun k => decide (kname k = z) : Nat))
  | _ => .int 0
theorem cntV_k {L : List Nat} (h : ∀ k ∈ L, k < 4) {m : Nat} (hm : m < 4) : cntV L (.str (kname m)) = .int (L.count m : Nat) := by
  show V.int ((L.countP fun k => decide (kname k = kname m) : Nat)) = _
  congr 2
  induction L with
  | nil => rfl
  | cons a L ih =>
    rw [List.countP_cons, List.count_cons, ih fun k hk => h k (List.mem_cons_of_mem _ hk)]
    by_cases q : a = m
    · subst q
      simp
    · have : ¬ kname a = kname m := fun e => q (kname_inj (h a List.mem_cons_self) hm e)
      simp [q, this]
theorem pairs_kinds {H : Hp} {f : Nat → Int} : ∀ (ls : List Addr) (L : List Nat), ls.length = L.length → (∀ (j : Nat) l k, ls[j]? = some l → L[j]? = some k → H l = some (.tup [V.str (kname k), .int (f k)])) → Paired (fun p (kv : Key × V) => SqT K H p [kV kv.1, kv.2]) ls (L.map fun k => ((.inr (kname k) : Key), V.int (f k)))
  | [], [], _, _ => by constructor
  | [], _ :: _, e, _ => nomatch e
  | _ :: _, [], e, _ => nomatch e
  | l :: ls, k :: L, e, h => by
    refine .cons (.of (h 0 l k rfl rfl)) (pairs_kinds ls L (Nat.succ.inj e) fun j l' t' a b => h (j + 1) l' t' a b)
theorem NeT.upd {H H' : Hp} {b : Addr} {o : HO} (n : NeT H b) (e : Vc.Ext H H') : Vc.Ext H (upd H' b o) := fun a u ha no => by
  rw [upd_ne (fun z => n a u ha no z.symm)]
  exact e a u ha no
end

section
variable {P : Program} {w : World} {K : PySem.W.Frag} {mg : Str → Option Value} {base : Heap}
def RowN (K : PySem.W.Frag) (H : Hp) (l p : Addr) (c : Int) (ns : List Int) : Prop := ∃ dx lr, H p = some (.ins (cRow K) dx (rwF c lr)) ∧ H lr = some (.lst (ns.map V.int)) ∧ p ≠ l ∧ lr ≠ l
theorem RowN.at {H : Hp} {l p : Addr} {c : Int} {ns : List Int} (h : RowN K H l p c ns) : RowAt K H p c ns := let ⟨dx, lr, a, b, _⟩ := h; ⟨dx, lr, a, b⟩
theorem Str2_same {H H' : Hp} {l : Addr} (h : Str2 H l) (s : Same H H') : Str2 H' l := let ⟨x, y, e, z⟩ := h; ⟨x, y, s _ _ e, z⟩
theorem Str2_ne {H : Hp} {l p : Addr} (h : Str2 H l) (n : H p = none) : p ≠ l := by
  obtain ⟨x, y, e, _⟩ := h
  intro z
  rw [z, e] at n
  cases n
structure Wy (K : PySem.W.Frag) (l : Addr) (H H' : Hp) : Prop where
  e : ∀ x o, x ≠ l → H x = some o → (∀ ps, o ≠ .tbl ps) → H' x = some o
  s : Str2 H' l
  t : TabZ K H'
theorem Wy.same {l : Addr} {H H1 H2 : Hp} (w : Wy K l H H1) (s : Same H1 H2) : Wy K l H H2 := ⟨fun x o n e no => s _ _ (w.e x o n e no), Str2_same w.s s, TabZ.same w.t s⟩
theorem Wy.x {l : Addr} {H H1 H2 : Hp} (w : Wy K l H H1) (s : SameX l H1 H2) (h : Str2 H2 l) : Wy K l H H2 := by
  obtain ⟨y1, y2, hy, r⟩ := w.s
  exact ⟨fun x o n e no => s _ _ n (w.e x o n e no), h, w.t.xd hy (fun ps z => by cases z) (fun c q z => by cases z) s⟩
theorem Wy.ext {l : Addr} {H H1 H2 : Hp} (w : Wy K l H H1) (e : Vc.Ext H1 H2) (t : TabZ K H2) : Wy K l H H2 := by
  obtain ⟨y1, y2, hy, r⟩ := w.s
  exact ⟨fun x o n h no => e _ _ (w.e x o n h no) no, ⟨y1, y2, e _ _ hy fun _ z => (by cases z), r⟩, t⟩
theorem Wy.tr {l : Addr} {H H1 H2 : Hp} (w : Wy K l H H1) (w2 : Wy K l H1 H2) : Wy K l H H2 := ⟨fun x o n e no => w2.e x o n (w.e x o n e no) no, w2.s, w2.t⟩
theorem Wy.row {l p : Addr} {H H1 : Hp} {c : Int} {ns : List Int} (w : Wy K l H H1) (h : RowN K H l p c ns) : RowN K H1 l p c ns := let ⟨dx, lr, a, b, d, e⟩ := h; ⟨dx, lr, w.e _ _ d a (fun _ z => by cases z), w.e _ _ e b (fun _ z => by cases z), d, e⟩
theorem Wy.lst {l b : Addr} {H H1 : Hp} {xs : List V} (w : Wy K l H H1) (n : b ≠ l) (h : H b = some (.lst xs)) : H1 b = some (.lst xs) := w.e _ _ n h fun _ z => by cases z
theorem sqL_y {l a : Addr} {H2 H3 H' : Hp} {xs : List V} (h : SqL K H2 a xs) (ln : H2 l = none) (s : Same H2 H3) (w : Wy K l H3 H') : SqL K H' a xs := by
  rcases h with (h | ⟨o, h⟩) | h
  · exact .inl (.inl (w.e _ _ (ne_of_none h ln) (s _ _ h) fun _ z => by cases z))
  · exact .inl (.inr ⟨o, w.e _ _ (ne_of_none h ln) (s _ _ h) fun _ z => by cases z⟩)
  · exact .inr h
/-- a row of runs that are alike -/
def repR (n : Nat) (x : Int) : List Int := List.replicate n x
theorem repR_len (n : Nat) (x : Int) : (repR n x).length = n := List.length_replicate
theorem repR_sum (x : Int) : ∀ n, (repR n x).sum = n * x
  | 0 => by simp [repR]
  | n + 1 => by
    show (x :: repR n x).sum = _
    rw [List.sum_cons, repR_sum x n, Int.natCast_add, Int.add_mul]
    omega
theorem repR_nf {n : Nat} {x c : Int} (hx : 1 ≤ x) (hc : c = 0 ∨ c = 1) (h0 : n = 0 → c = 0) : Nf c (repR n x) := ⟨hc, fun m hm => by rw [List.eq_of_mem_replicate hm]; exact hx, fun e => h0 (by rw [← repR_len n x, e]; rfl)⟩
theorem rep_flat (n : Nat) (x : Int) : (List.replicate n [V.int x]).flatten = (repR n x).map V.int := by
  unfold repR
  induction n with
  | zero => rfl
  | succ n ih => rw [List.replicate_succ, List.flatten_cons, ih, List.replicate_succ, List.map_cons]; rfl
theorem row_rep {X : Cx} {W : WX} {σ : L2.St} {H : Hp} {Q : VK} {k : Nat} (T : TX K mg) (C : Ctx P w K mg base k X W) (hk : 4 ≤ k) {p : Addr} {c x : Int} {n : Nat} (np : H p = none) (hx : 1 ≤ x) (hx9 : x ≤ 9) (hc : c = 0 ∨ c = 1) (n1 : n ≤ 2000) (h0 : n = 0 → c = 0)
    (q : ∀ (r lr : Addr) (H' : Hp), H r = none → H lr = none → Same H H' → RowL K H' r c (repR n x) lr → Q (.ref r) H') : CV X (.ref (cRow K)) [.int c, .ref p] σ (upd H p (.lst ((List.replicate n [V.int x]).flatten))) Q := by
  rw [rep_flat]
  have hM : M30 = 1000000000000000000000000000000 := rfl
  have u := same_upd (o := .lst ((repR n x).map V.int)) np
  have hp : (upd H p (.lst ((repR n x).map V.int))) p = some (.lst ((repR n x).map V.int)) := upd_same
  have b : (n : Int) * x ≤ 2000 * 9 := Int.mul_le_mul (by omega) hx9 (by omega) (by decide)
  refine mk_RowOk T C hk (.of hp) (.base (.lst hp)) (okRow_nf (repR_nf hx hc h0) (by rw [repR_len]; exact n1) (by rw [repR_sum]; omega)) fun r lr H' nr nlr s rl => q r lr H' (none_bk u nr) (none_bk u nlr) (u.trans s) rl
theorem numS_w : 20000 < numS (repR 290 2).length 0 2 false ∧ 20000 < numS (repR 283 2).length 0 2 false ∧ numS (repR 284 2).length 0 2 false = 19881 := by
  rw [repR_len, repR_len, repR_len]
  decide +kernel
end

section
variable {P : Program} {w : World} {K : PySem.W.Frag} {mg : Str → Option Value} {base : Heap}
theorem RowN.ext {H H' : Hp} {l p : Addr} {c : Int} {ns : List Int} (h : RowN K H l p c ns) (s : Vc.Ext H H') : RowN K H' l p c ns := let ⟨dx, lr, a, b, d⟩ := h; ⟨dx, lr, s.ins a, s.lst b, d⟩
theorem RowN.same {H H' : Hp} {l p : Addr} {c : Int} {ns : List Int} (h : RowN K H l p c ns) (s : Same H H') : RowN K H' l p c ns := let ⟨dx, lr, a, b, d⟩ := h; ⟨dx, lr, s _ _ a, s _ _ b, d⟩
theorem RowAt.ext {H H' : Hp} {p : Addr} {c : Int} {ns : List Int} (h : RowAt K H p c ns) (s : Vc.Ext H H') : RowAt K H' p c ns := let ⟨dx, l, h, g⟩ := h; ⟨dx, l, s.ins h, s.lst g⟩
theorem numS_ends {r c : Int} {g : Nat} (hg : g < 2) {s : Bool} (h0 : 0 ≤ r) (h : r ≤ 2000) : numS r c g s ≤ 20000 := by
  unfold numS bestK
  refine Int.le_trans (sum_filt fun k => numK_nn h0 k) ?_
  have n1 : numK r 1 = if r = 0 then 0 else (r - 1) / 2 := rfl
  have n2 : numK r 2 = if r = 0 then 0 else (r - 1) / 2 := rfl
  have n3 : numK r 3 = if r = 0 then 0 else 1 := rfl
  have cg : g = 0 ∨ g = 1 := by omega
  rcases cg with rfl | rfl
  · show numK r 1 + (numK r 3 + 0) ≤ 20000
    rw [n1, n3]
    split <;> omega
  · show numK r 1 + (numK r 2 + (numK r 3 + 0)) ≤ 20000
    rw [n1, n2, n3]
    split <;> omega
def spLaw (K : PySem.W.Frag) : Sp := fun vs H Q _ => ∃ (a : Addr) (ns : List Int), vs = [.ref a] ∧ SqL K H a (ns.map V.int) ∧ ns.length ≤ 63 ∧ (∀ p ∈ tf, H (He.cT K p).2 = some (.tbl #[])) ∧ ∀ H', Q (.bl true) H'
theorem ok_law [PF P] (T : TX K mg) : FnLT P w K mg tf (He.ga K "law") 13 "_law_script" (spLaw K) := by
  refine mk_law T (fun vs H Q E h => ?_) (fun base hT X vs H Q E C dl h => ?_)
  · obtain ⟨a, ns, rfl, _⟩ := h
    rfl
  obtain ⟨a, ns, rfl, hS, hlen, ht, q⟩ := h
  haveI : TabF K mg base ("plain_best_flips", none) := hT _ (by decide)
  haveI : TabF K mg base ("law", none) := hT _ (by decide)
  have hT0 : TabZ K H := ⟨LamX.TabS.nil (ht ("law", none) (by decide)), LamX.TabS.nil (ht ("plain_best_flips", none) (by decide))⟩
  have oth : ∀ {H1 : Hp}, TabZ K H1 → ∀ z ∈ [("plain_best_flips" : Str)], (He.cT K (z, none)).2 ≠ (He.cT K (("law" : Str), none)).2 ∧ TabH K H1 z := fun h z hz => by
    rw [List.mem_singleton.mp hz]
    exact ⟨tne_plain_best_flips_law T, h.2⟩
  unfold r_law
  repeat walk_at "v"
  refine s_for1 (m_range T C) ?_
  repeat walk_at "v"
  refine len_l C hS ?_
  rw [List.length_map]
  refine min_2 C ?_
  refine max_2 C ?_
  refine ⟨_, rfl, by split <;> split <;> omega, by split <;> split <;> omega, ?_⟩
  refine lp_range (fun _ σ H' => ∃ o1 o2 o3 o4 o5 o6 o7 o8, σ = [some (.ref a), o1, o2, o3, o4, o5, o6, o7, o8] ∧ SqL K H' a (ns.map V.int) ∧ TabZ K H') ⟨_, _, _, _, _, _, _, _, rfl, hS, hT0⟩ ?_ ?_
  · rintro i σ H2 hi ⟨o1, o2, o3, o4, o5, o6, o7, o8, rfl, hS2, hT2⟩
    repeat walk_at "v"
    refine cv_fn C (ok__law_stream T) (by omega) ⟨a, ns, i, congrArg (fun z => [V.ref a, V.int z]) (Int.zero_add _), hS2, by omega, fun l H3 ln sl hl => ?_⟩
    have w3 : Wy K l H3 H3 := ⟨fun _ _ _ e _ => e, hl, TabZ.same hT2 sl⟩
    have dr : ∀ {X' : Cx} {W' : WX} (C' : Ctx P w K mg base 12 X' W') (n : Int) (σ' : L2.St) (H' : Hp) (Q' : VK), 0 < n → n < 10000 → Str2 H' l → (∀ (r : Int) H3, 0 ≤ r → r < n → SameX l H' H3 → Str2 H3 l → Q' (.int r) H3) → CV X' (.ref (He.ga K "_law_draw")) [.ref l, .int n] σ' H' Q' := fun {X' W'} C' n σ' H' Q' n0 n1 h q' =>
      cv_fn C' (ok__law_draw T) (by omega) ⟨l, n, rfl, h, n0, small_div (Nat.lt_of_lt_of_le (by omega : n.natAbs < 2 ^ 14) (Nat.pow_le_pow_right (by decide) (by decide))), q'⟩
    refine s_gname (nx_mk (s_seq (s_forL ?_)))
    repeat walk_at "v"
    refine dr C 9 _ _ _ (by decide) (by decide) hl fun a1 H4 a10 a11 s4 hl4 => ?_
    repeat walk_at "v"
    refine dr C 60 _ _ _ (by decide) (by decide) hl4 fun a2 H5 a20 a21 s5 hl5 => ?_
    repeat walk_at "v"
    refine dr C 2001 _ _ _ (by decide) (by decide) hl5 fun a3 H6 a30 a31 s6 hl6 => ?_
    repeat walk_at "v"
    refine ⟨szr rfl, fun e ne => ?_⟩
    have w6 := ((w3.x s4 hl4).x s5 hl5).x s6 hl6
    have el := Str2_ne w6.s ne
    have u7 := same_upd (o := .lst [.int a1, .int a2, .int a3]) ne
    have he : (upd H6 e (.lst [.int a1, .int a2, .int a3])) e = some (.lst [.int a1, .int a2, .int a3]) := upd_same
    have w7 := w6.same u7
    generalize upd H6 e (.lst [.int a1, .int a2, .int a3]) = H7 at he w7 ⊢
    clear u7 w6 s4 s5 s6 hl4 hl5 hl6
    have w77 : Wy K l H7 H7 := ⟨fun _ _ _ e _ => e, w7.s, w7.t⟩
    refine it_l C (.of he) ?_
    refine lp_list (xs := [.int a1, .int a2, .int a3]) (fun j σ H' => ∃ o3 o4 o5 o6 o7, σ = [some (.ref a), some (.int (0 + i)), some (.ref l), o3, o4, o5, o6, o7, o8] ∧ Wy K l H7 H' ∧ (j = 0 ∨ ∃ p c ms, o7 = some (.ref p) ∧ RowN K H' l p c ms)) ⟨_, _, _, _, _, rfl, w77, .inl rfl⟩ ?_ ?_ ?_
    · rintro t σ H' _ ⟨_, _, _, _, _, rfl, wd, _⟩
      exact .of (wd.lst el he)
    · rintro t x σ H8 hx ⟨o3, o4, o5, o6, o7, rfl, w8, _⟩
      obtain ⟨r, rfl, r0, r1⟩ : ∃ r : Int, x = .int r ∧ 0 ≤ r ∧ r ≤ 2000 := by
        have hv := List.mem_of_getElem? hx
        simp only [List.mem_cons, List.not_mem_nil, or_false] at hv
        rcases hv with rfl | rfl | rfl
        · exact ⟨a1, rfl, a10, by omega⟩
        · exact ⟨a2, rfl, a20, by omega⟩
        · exact ⟨a3, rfl, a30, by omega⟩
      clear hx
      obtain ⟨n, rfl⟩ : ∃ n : Nat, r = n := ⟨r.toNat, by omega⟩
      refine s_gname (s_seq (s_asg ?_))
      repeat walk_at "v"
      refine te_any (fun v H' => ∃ c : Int, v = .int c ∧ (c = 0 ∨ c = 1) ∧ (n = 0 → c = 0) ∧ Wy K l H7 H') (fun Q' q' => ?_) (fun v H9 hv => ?_)
      · refine s_ifx ?_
        repeat walk_at "v"
        refine s_ite (fun b => ?_) (fun b => ?_)
        · repeat walk_at "v"
          exact dr C 2 _ _ _ (by decide) (by decide) w8.s fun c H9 c0 c1 s9 hl9 => q' _ _ ⟨c, rfl, by omega, fun z => by omega, w8.x s9 hl9⟩
        · repeat walk_at "v"
          exact q' _ _ ⟨0, rfl, .inl rfl, fun _ => rfl, w8⟩
      obtain ⟨c, rfl, hc, hc0, w9⟩ := hv
      repeat walk_at "v"
      refine dr C 9 _ _ _ (by decide) (by decide) w9.s fun y HA y0 y1 sA hlA => ?_
      have wA := w9.x sA hlA
      repeat walk_at "v"
      refine ⟨szr rfl, fun e2 ne2 => ?_⟩
      have uB := same_upd (o := .lst [.int (1 + y)]) ne2
      have he2 : (upd HA e2 (.lst [.int (1 + y)])) e2 = some (.lst [.int (1 + y)]) := upd_same
      have wB := wA.same uB
      generalize upd HA e2 (.lst [.int (1 + y)]) = HB at he2 wB ⊢
      repeat walk_at "v"
      refine rep_l he2 (by omega) (by omega) (sz2 (by show 1 * _ ≤ _; omega)) fun e3 ne3 => ?_
      rw [Int.toNat_natCast]
      refine row_rep T C (by omega) ne3 (by omega) (by omega) hc (by omega) hc0 fun p lr HC np nlr sC rl => ?_
      have wC := wB.same sC
      have hrC : RowN K HC l p c (repR n (1 + y)) := by
        obtain ⟨dx, a1, a2⟩ := rl
        exact ⟨dx, lr, a1, a2, Str2_ne wB.s np, Str2_ne wB.s nlr⟩
      have nf : Nf c (repR n (1 + y)) := repR_nf (by omega) hc hc0
      have nl : (repR n (1 + y)).length = n := repR_len _ _
      have n2 : n ≤ 2000 := by omega
      generalize repR n (1 + y) = ms at hrC nf nl
      subst nl
      have wCC : Wy K l HC HC := ⟨fun _ _ _ e _ => e, wC.s, wC.t⟩
      refine s_gname (nx_mk (s_forL ?_))
      repeat walk_at "v"
      refine ⟨szr rfl, fun e4 ne4 => ?_⟩
      have el4 := Str2_ne wC.s ne4
      have uD := same_upd (o := .lst [.str "front", .str "ends", .str "parts"]) ne4
      have he4 : (upd HC e4 (.lst [.str "front", .str "ends", .str "parts"])) e4 = some (.lst [.str "front", .str "ends", .str "parts"]) := upd_same
      have wD := wC.same uD
      have wCD := wCC.same uD
      have hrD := wCD.row hrC
      generalize upd HC e4 (.lst [.str "front", .str "ends", .str "parts"]) = HD at he4 wD hrD wCD ⊢
      have wDD : Wy K l HD HD := ⟨fun _ _ _ e _ => e, wD.s, wD.t⟩
      refine it_l C (.of he4) ?_
      refine lp_list (xs := [.str "front", .str "ends", .str "parts"]) (fun _ σ H' => ∃ o4 o5 o6, σ = [some (.ref a), some (.int (0 + i)), some (.ref l), some (.int (ms.length : Nat)), o4, o5, o6, some (.ref p), o8] ∧ Wy K l HD H') ⟨_, _, _, rfl, wDD⟩ ?_ ?_ ?_
      · rintro t σ H' _ ⟨_, _, _, rfl, wd⟩
        exact .of (wd.lst el4 he4)
      · rintro t x σ HE hx ⟨o4, o5, o6, rfl, wE⟩
        obtain ⟨g, hg, rfl⟩ : ∃ g, g < 3 ∧ x = .str (gname g) := by
          have hv := List.mem_of_getElem? hx
          simp only [List.mem_cons, List.not_mem_nil, or_false] at hv
          rcases hv with rfl | rfl | rfl
          · exact ⟨0, by decide, rfl⟩
          · exact ⟨1, by decide, rfl⟩
          · exact ⟨2, by decide, rfl⟩
        clear hx
        repeat walk_at "v"
        refine s_forL ?_
        repeat walk_at "v"
        refine ⟨szr rfl, fun e5 ne5 => ?_⟩
        have el5 := Str2_ne wE.s ne5
        have uF := same_upd (o := .lst [.str "grouped", .str "sorted"]) ne5
        have he5 : (upd HE e5 (.lst [.str "grouped", .str "sorted"])) e5 = some (.lst [.str "grouped", .str "sorted"]) := upd_same
        have wF := wE.same uF
        have hrF := wF.row hrD
        generalize upd HE e5 (.lst [.str "grouped", .str "sorted"]) = HF at he5 wF hrF ⊢
        have wFF : Wy K l HF HF := ⟨fun _ _ _ e _ => e, wF.s, wF.t⟩
        refine it_l C (.of he5) ?_
        refine lp_list (xs := [.str "grouped", .str "sorted"]) (fun _ σ H' => ∃ o5 o6, σ = [some (.ref a), some (.int (0 + i)), some (.ref l), some (.int (ms.length : Nat)), some (.str (gname g)), o5, o6, some (.ref p), o8] ∧ Wy K l HF H') ⟨_, _, rfl, wFF⟩ ?_ ?_ ?_
        · rintro t2 σ H' _ ⟨_, _, rfl, wd⟩
          exact .of (wd.lst el5 he5)
        · rintro t2 x σ HG hx ⟨o5, o6, rfl, wG⟩
          obtain ⟨s, rfl⟩ : ∃ s, x = .str (oname s) := by
            have hv := List.mem_of_getElem? hx
            simp only [List.mem_cons, List.not_mem_nil, or_false] at hv
            rcases hv with rfl | rfl
            · exact ⟨false, rfl⟩
            · exact ⟨true, rfl⟩
          clear hx
          have hrG := (wG.row hrF).at
          have bk4 : ∀ k ∈ bestK ms.length c g s, k < 4 := fun k hk => kindsG_l4 (mem_bestK.mp hk).1
          have bkl : (bestK ms.length c g s).length ≤ 4 := by
            refine Nat.le_trans (List.length_filter_le _ _) ?_
            rcases c3 hg with rfl | rfl | rfl <;> decide
          repeat walk_at "v"
          refine row_prop T C (by omega) (p_Row_first T) (ok_Row_first T) hrG fun HH sH => ?_
          repeat walk_at "v"
          refine cv_fn C (ok__law_numbers T) (by omega) ⟨_, c, g, s, rfl, by omega, by omega, hc, hg, fun d HI nd sI hd => ?_⟩
          have sGI := sH.trans sI
          repeat walk_at "v"
          refine cv_fn C (ok_count_best T) (by omega) ⟨p, c, ms, _, _, _, _, rfl, hrG.same sGI, .str, .str, .inr ⟨g, s, hg, rfl, rfl, by omega, fun d2 HJ nd2 sJ hd2 => ?_⟩⟩
          have hdJ := sJ _ _ hd
          have vals : ∀ pr ∈ cntD ms.length c g s, L2.valV (cntD ms.length c g s) pr.1 = some pr.2 ∧ L2.flatB pr.2 = true := fun pr hpr => by
            obtain ⟨k, hk, rfl⟩ := List.mem_map.mp hpr
            exact ⟨valV_kinds (fun k => numK ms.length k) (bk4 k hk) bk4 hk, rfl⟩
          repeat walk_at "v"
          refine ne_dG C hd2 hdJ rfl vals ?_
          have sGJ := sGI.trans sJ
          repeat walk_at "v"
          refine cv_fn C (ok_count_best T) (by omega) ⟨p, c, ms, _, _, _, _, rfl, hrG.same sGJ, .str, .str, .inr ⟨g, s, hg, rfl, rfl, by omega, fun d3 HK nd3 sK hd3 => ?_⟩⟩
          have hdK := sK _ _ hdJ
          have sGK := sGJ.trans sK
          repeat walk_at "v"
          refine list_d C hd3 fun l1 nl1 => ?_
          have ek : (cntD ms.length c g s).map (fun kv => kV kv.1) = kvs (bestK ms.length c g s) := by
            unfold cntD kvs
            rw [List.map_map]
            rfl
          rw [ek]
          have uL := same_upd (o := .lst (kvs (bestK ms.length c g s))) nl1
          have hl1 : (upd HK l1 (.lst (kvs (bestK ms.length c g s)))) l1 = some (.lst (kvs (bestK ms.length c g s))) := upd_same
          generalize upd HK l1 (.lst (kvs (bestK ms.length c g s))) = HL at uL hl1 ⊢
          have hdL := uL _ _ hdK
          repeat walk_at "v"
          refine sorted_d (ks := (bestK ms.length c g s).map kname) C hdL (by unfold cntD; rw [List.map_map, List.map_map]; rfl) (by rw [List.length_map]; omega) fun ys l2 py sy nl2 => ?_
          obtain rfl := sorted_names bk4 (bestK_nodup _ _ hg s) (fun k => Iff.rfl) (bestK_sorted _ _ hg s) py sy
          rw [show ((bestK ms.length c g s).map kname).map V.str = kvs (bestK ms.length c g s) from by unfold kvs; rw [List.map_map]; rfl]
          have uM := same_upd (o := .lst (kvs (bestK ms.length c g s))) nl2
          have hl2 : (upd HL l2 (.lst (kvs (bestK ms.length c g s)))) l2 = some (.lst (kvs (bestK ms.length c g s))) := upd_same
          generalize upd HL l2 (.lst (kvs (bestK ms.length c g s))) = HM at uM hl2 ⊢
          repeat walk_at "v"
          refine ne_D C (.lst (.of (uM _ _ hl1)) (dkn_dp _)) (.lst (.of hl2) (dkn_dp _)) (dkn_sha _ bk4) (dkn_sha _ bk4) ?_
          rw [dkn_refl bk4]
          have sGM := sGK.trans (uL.trans uM)
          have wM := wG.same sGM
          have hdM := uM _ _ hdL
          have hrM := hrG.same sGM
          clear hd hd2 hd3 hdJ hdK hdL hl1 hl2 uL uM sK sJ sI sH sGI sGJ sGK sGM
          repeat walk_at "v"
          refine ne_sc rfl ?_
          rw [show ("parts" : Str) = gname 2 from rfl, gname_ne hg 2 (by decide)]
          by_cases g2 : g = 2
          · rw [decide_eq_true g2]
            repeat walk_at "v"
            exact ⟨_, _, rfl, wM⟩
          rw [decide_eq_false g2]
          repeat walk_at "v"
          refine ⟨_, mth_values C hdM, ?_⟩
          repeat walk_at "v"
          refine vals_d hdM fun v nv => ?_
          have uN := same_upd (o := viewO "dict_values" v d) nv
          have hv : (upd HM v (viewO "dict_values" v d)) v = some (viewO "dict_values" v d) := upd_same
          have hdN := uN _ _ hdM
          generalize upd HM v (viewO "dict_values" v d) = HN at uN hv hdN ⊢
          repeat walk_at "v"
          refine sum_v (ns := (bestK ms.length c g s).map (numK ms.length)) C hv hdN (by unfold cntD; rw [List.map_map, List.map_map]; rfl) ?_
          have wN := wM.same uN
          repeat walk_at "v"
          refine cv_fn C (ok__law_listed T) (by omega) ⟨p, c, ms, g, s, rfl, hrM.same uN, nf, n2, hg, numS_ends (by omega) (by omega) (by omega), wN.t, fun HO eO tO => ?_⟩
          repeat walk_at "v"
          exact ⟨_, _, rfl, wN.ext eO tO⟩
        · rintro σ HG ⟨o5, o6, rfl, wG⟩
          exact ⟨_, _, _, rfl, wF.tr wG⟩
      · rintro σ HE ⟨o4, o5, o6, rfl, wE⟩
        exact ⟨_, _, _, _, _, rfl, wC.tr (wCD.tr wE), .inr ⟨p, c, ms, rfl, wE.row hrD⟩⟩
    · rintro σ H8 ⟨o3, o4, o5, o6, o7, rfl, w8, h8⟩
      obtain ⟨p, c, ms, rfl, hrp⟩ := h8.resolve_left (by show ¬ (3 = 0); decide)
      repeat walk_at "v"
      refine outcome (j := 10) T C dl (by omega) w8.t.1 _ (oth w8.t) fun H9 e9 t9 z9 Y CY => ?_
      have w9 : Wy K l H7 H9 := w8.ext e9 ⟨t9, z9 _ (List.mem_singleton.mpr rfl)⟩
      repeat walk_at "v"
      refine cv_fn CY (ok_count_best T) (by omega) ⟨p, c, ms, .str "end", .non, _, _, rfl, (hrp.ext e9).at, .str, ⟨.base .non, fun _ => kit_ty (by decide +kernel)⟩, .inl (.inl ⟨by decide +kernel, fun HA sA => .inr (.inl ⟨rfl, rfl, ?_⟩)⟩)⟩
      have wA := w9.same sA
      have hrA := (hrp.ext e9).same sA
      repeat walk_at "v"
      refine ne_sc rfl ?_
      rw [decide_eq_true rfl]
      repeat walk_at "v"
      refine outcome (j := 10) T C dl (by omega) wA.t.1 _ (oth wA.t) fun HB eB tB zB Y2 CY2 => ?_
      have wB : Wy K l H7 HB := wA.ext eB ⟨tB, zB _ (List.mem_singleton.mpr rfl)⟩
      repeat walk_at "v"
      refine cv_fn CY2 (ok_best_flips T) (by omega) ⟨p, c, ms, .str "ends", .str "sort", _, _, rfl, (hrA.ext eB).at, .str, .str, .inl (.inr ⟨by decide +kernel, by decide +kernel, fun HC sC => .inr (.inr ⟨rfl, rfl, ?_⟩)⟩)⟩
      have wC := wB.same sC
      repeat walk_at "v"
      refine ne_sc rfl ?_
      rw [decide_eq_true rfl]
      repeat walk_at "v"
      exact ⟨_, _, _, _, _, _, _, _, rfl, sqL_y hS2 ln sl (w7.tr wC), wC.t⟩
  · rintro σ H2 ⟨o1, o2, o3, o4, o5, o6, o7, o8, rfl, _, hT2⟩
    clear hS hT0
    have two : ∀ (n k' : Nat) (σ' : L2.St) (X' : Cx) (W' : WX) (H' : Hp) (Q' : VK), 4 ≤ k' → Ctx P w K mg base k' X' W' → n ≤ 2000 → n ≠ 0 → TabZ K H' → (∀ r HX, Same H' HX → TabZ K HX → RowAt K HX r 0 (repR n 2) → Q' (.ref r) HX) → ∀ e, H' e = none → ∀ e2, (upd H' e (.lst [.int 2])) e2 = none →
        CV X' (.ref (cRow K)) [.int 0, .ref e2] σ' (upd (upd H' e (.lst [.int 2])) e2 (.lst ((List.replicate n [V.int 2]).flatten))) Q' := fun n k' σ' X' W' H' Q' hk C' hn h0 ht q' e ne e2 ne2 => by
      have u := same_upd (o := .lst [.int 2]) ne
      exact row_rep T C' hk ne2 (by decide) (by decide) (.inl rfl) hn (fun z => absurd z h0) fun r lr HX nr nlr s rl => q' r HX (u.trans s) (TabZ.same ht (u.trans s)) rl.at
    repeat walk_at "v"
    refine ⟨szr rfl, fun e ne => ?_⟩
    repeat walk_at "v"
    refine rep_l (xs := [.int 2]) upd_same (by decide) (by decide) (szr rfl) fun e2 ne2 => ?_
    refine two 290 12 _ _ _ _ _ (by decide) C (by decide) (by decide) hT2 (fun r H3 s3 t3 hr3 => ?_) e ne e2 ne2
    have nf : ∀ n : Nat, n ≠ 0 → Nf 0 (repR n 2) := fun n h => repR_nf (by decide) (.inl rfl) fun z => absurd z h
    obtain ⟨b290, b283, b284⟩ := numS_w
    -- an outcome that is many
    have many : ∀ (σ' : L2.St) (H' : Hp) (R : VK), (∀ H2, TabZ K H2 → R (.bl false) H2) → TabZ K H' → ∀ d, H' d = none → telL (fun x H1 => ∀ l3, H1 l3 = none → O2 X (compareOp .NotEq) x (.ref l3) σ' (upd H1 l3 (.lst [.str "many", .int 20000, .bl true])) R) (upd H' d (.xd [(("limit" : Str), .int 20000)])) := fun σ' H' R hR ht d nd l nl l3 nl3 => by
      have u1 := same_upd (o := .xd [(("limit" : Str), .int 20000)]) nd
      have u2 := same_upd (o := .lst [V.str "many", .int 20000, .bl true]) nl
      have u3 := same_upd (o := .lst [V.str "many", .int 20000, .bl true]) nl3
      refine ne_D (d := .list [.str "many", .int 20000, .bool true]) (e := .list [.str "many", .int 20000, .bool true]) C (.lst (.of (u3 _ _ upd_same)) (.cons (.str _) (.cons (.int _) (.cons (.bl _) .nil)))) (.lst (.of upd_same) (.cons (.str _) (.cons (.int _) (.cons (.bl _) .nil)))) (by decide +kernel) (by decide +kernel) ?_
      rw [show PyData.eqv (.list [.str "many", .int 20000, .bool true]) (.list [.str "many", .int 20000, .bool true]) = true from by decide +kernel]
      exact hR _ (TabZ.same ht (u1.trans (u2.trans u3)))
    repeat walk_at "v"
    refine outcome (j := 10) T C dl (by omega) t3.1 _ (oth t3) fun H4 e4 t4 z4 Y CY => ?_
    have t4 : TabZ K H4 := ⟨t4, z4 _ (List.mem_singleton.mpr rfl)⟩
    repeat walk_at "v"
    refine cv_fn CY (ok_best_flips T) (by omega) ⟨r, 0, repR 290 2, .str "parts", .str "grouped", _, _, rfl, RowAt.ext hr3 e4, .str, .str, .inr ⟨2, false, by decide, rfl, rfl, nf 290 (by decide), by rw [repR_len]; decide, t4, (fun h => by omega), fun _ d H5 s5 nd => .inl ⟨rfl, d, rfl, upd_same, ?_⟩⟩⟩
    intro l nl
    repeat walk_at "v"
    refine ⟨szr rfl, fun l3 nl3 => ?_⟩
    refine many _ H5 _ (fun H6 t6 => ?_) (TabZ.same t4 s5) d nd l nl l3 nl3
    clear s5 nd nl nl3 t4 e4 CY t3 s3 hr3 z4
    repeat walk_at "v"
    refine outcome (j := 10) T C dl (by omega) t6.1 _ (oth t6) fun H7 e7 t7 z7 Y2 CY2 => ?_
    have t7 : TabZ K H7 := ⟨t7, z7 _ (List.mem_singleton.mpr rfl)⟩
    repeat walk_at "v"
    refine ⟨szr rfl, fun e8 ne8 => ?_⟩
    repeat walk_at "v"
    refine rep_l (xs := [.int 2]) upd_same (by decide) (by decide) (szr rfl) fun e9 ne9 => ?_
    repeat walk_at "v"
    refine two 283 10 _ _ _ _ _ (by decide) CY2 (by decide) (by decide) t7 (fun rA HA sA tA hrA => ?_) e8 ne8 e9 ne9
    repeat walk_at "v"
    refine cv_fn CY2 (ok_best_flips T) (by omega) ⟨rA, 0, repR 283 2, .str "parts", .str "grouped", _, _, rfl, hrA, .str, .str, .inr ⟨2, false, by decide, rfl, rfl, nf 283 (by decide), by rw [repR_len]; decide, tA, (fun h => by omega), fun _ dB HB sB ndB => .inl ⟨rfl, dB, rfl, upd_same, ?_⟩⟩⟩
    intro lC nlC
    repeat walk_at "v"
    refine ⟨szr rfl, fun lD nlD => ?_⟩
    refine many _ HB _ (fun HE tE => ?_) (TabZ.same tA sB) dB ndB lC nlC lD nlD
    clear sB ndB nlC nlD tA sA hrA t7 e7 z7 CY2
    repeat walk_at "v"
    refine ⟨szr rfl, fun eF neF => ?_⟩
    repeat walk_at "v"
    refine rep_l (xs := [.int 2]) upd_same (by decide) (by decide) (szr rfl) fun eG neG => ?_
    repeat walk_at "v"
    refine two 284 12 _ _ _ _ _ (by decide) C (by decide) (by decide) tE (fun rH HH sH tH hrH => ?_) eF neF eG neG
    repeat walk_at "v"
    refine cv_fn C (ok_best_flips T) (by omega) ⟨rH, 0, repR 284 2, .str "parts", .str "grouped", _, _, rfl, hrH, .str, .str, .inr ⟨2, false, by decide, rfl, rfl, nf 284 (by decide), by rw [repR_len]; decide, tH, (fun _ b qs HI nb eI tI pl pm lx => ?_), fun h => by omega⟩⟩
    obtain ⟨fs, hb, fl, _⟩ := pl
    have ql : (qs.length : Int) = 19881 := by rw [pm.length_eq, bestF_length]; exact b284
    repeat walk_at "v"
    refine len_l C (.of hb) ?_
    repeat walk_at "v"
    rw [List.length_map, fl, ql]
    refine mul_ii (.inl (by decide)) ?_
    refine eq_ii ?_
    rw [show decide ((19881 : Int) = 141 * 141) = true from by decide]
    exact q _
end

end T
open PySem PySem.W PySem.Calls PyProof.Rows
set_option maxHeartbeats 0 in
theorem PySem.Challenge.cw_twocolourflips_k17_numbers_of_best_flips_holds : PySem.Challenge.rw_twocolourflips_k17_numbers_of_best_flips.Holds := by
  refine T.h_law fun said => ?_
  refine HandSHeadRun.head_any (r := OpenLaw.row PySem.Challenge.rw_twocolourflips_k17_numbers_of_best_flips) (q := view (OpenLaw.row PySem.Challenge.rw_twocolourflips_k17_numbers_of_best_flips).prog [50]) (H := T.hk) (ob := T.ob) (M := 20000) (loose := T.loose) (d := HandSHeadRun.topDef (OpenLaw.row PySem.Challenge.rw_twocolourflips_k17_numbers_of_best_flips).prog 50) (kwd := []) T.ob_eq
    (by kernel_rfl) (fun s => by kernel_rfl) T.run (by kernel_rfl) (by kernel_rfl) (by kernel_rfl) (by rfl) said (by decide +kernel) T.h_bare ?hw ?hc
  case hw => w_witness2
  case hc => exact Vc.walk_w (l := PySem.Challenge.rw_twocolourflips_k17_numbers_of_best_flips) (n := 63) (k := 13) (x := "_law_script") (fa := T.fa) (fn := T.fn) (tf := T.tf) (sp := T.spLaw) (dn := "law") rfl (by decide) (by kernel_rfl) ⟨rfl, by decide, by decide⟩ (by kernel_rfl) T.g0_law (fun w K mg t => T.ok_law t) fun K H a ns hl hT hS => ⟨a, ns, rfl, hS, hl, hT, fun _ => rfl⟩


