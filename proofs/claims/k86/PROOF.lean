import PyProof.Rows.All
import Wide.All
import OpenK.AllK
import Wide.FinOn
import HandS.ForMost
import HandS.ForExc
import HandS.Flow
import HandS.Wide
import HandS.Gcd
import HandS.More
import HandS.IsInst
import HandS.ExcInit
import HandS.ExcField
import HandS.ExcIs
import HandS.ClsMeth
import HandS.Defaults
import HandS.HeadHook2
import HandS.TupAny
import HandS.StrMore
import HandS.Style
import KE.KStateDown
import KE.KExcInit
import HandS.Head0
import HandS.Head1
import HandS.Head2
import HandS.Head3
import HandS.HeadEnd
import HandS.HeadHook1
import HandS.HeadNt
import HandS.Small
import HandS.TryMany
import KE.KExcIs
import PyProof.StrOps2
import HandS.EndBits
import PySem.Challenge.RW_fewcarry_k86_question_forms
set_option Elab.async false
set_option linter.all false
set_option maxRecDepth 100000
set_option maxHeartbeats 4000000
namespace Go
open PySem PySem.Spec PyProof.Rows L2

/-! ### calls by positional promises, what is raised is taken by the wish W -/
def tCallF (sp : Sp) (W : WX) (t : TA) : TE := fun σ H Q => t σ H fun vs H1 => sp vs H1 Q (fun cls d H' => W cls d σ H')
def tMethF (C : Addr) (m : Str) (sp : Sp) (W : WX) (ta : TE) (t : TA) : TE := fun σ H Q => ta σ H fun x H1 => ∃ a dx fs, x = .ref a ∧ H1 a = some (.ins C dx fs) ∧ fs.lookup m = none ∧ t σ H1 fun vs H2 => sp (x :: vs) H2 Q (fun cls d H' => W cls d σ H')
def tMakeF (C : Addr) (sp : Sp) (W : WX) (t : TA) : TE := fun σ H Q => t σ H fun vs H1 => ∀ x dx, H1 x = none → H1 dx = none → dx ≠ x →
  sp (.ref x :: vs) (upd (upd H1 dx (.own x)) x (.ins C dx [])) (fun v H2 => v = .non ∧ Q (.ref x) H2) (fun cls d H' => W cls d σ H')
def tMakeLF (i : Nat) (C : Addr) (sp : Sp) (W : WX) (t : TA) : TE := fun σ H Q => σ[i]? = some (some (.ref C)) ∧ tMakeF C sp W t σ H Q
def tCMethF (C : Addr) (sp : Sp) (W : WX) (t : TA) : TE := fun σ H Q => t σ H fun vs H1 => sp (.ref C :: vs) H1 Q (fun cls d H' => W cls d σ H')

section
variable {X : Cx} {k i : Nat} {f C : Addr} {sp : Sp} {W : WX} {x m : Str} {p pos apos : Pos} {e o : Expr} {es : List Expr} {ta : TE} {t : TA} {pins : List (Addr × Obj)} {σ : L2.St} {H : Hp} {s : Shared}
/-- what a callee may let out is taken -/
theorem passW (tk : Takes X W) (σ : L2.St) : ∀ (pins : List (Addr × Obj)) (H : Hp) (s : Shared) (e : Value) (s' : Shared), Inv X pins σ H s → L2.CX X.prog X.w X.stack H s (fun cls d H' => W cls d σ H') e s' → X.xe e s' :=
  fun _ _ _ e s' I c => tk e s' (XE.of_call I (fun _ _ _ h => h) c)
theorem run_F {Q : VK} {us : List Value} {vs : List V} (F : FnR X.prog X.w X.K X.mg X.base (L2.CX X.prog X.w) k f sp) (hr : Room k X.A) (tk : Takes X W) (I : Inv X pins σ H s) (r : Vals vs us)
    (h : sp vs H Q (fun cls d H' => W cls d σ H')) : codeAny (model X.prog X.w) X.A (.call (.ref f) ⟨us, []⟩) (fun r s' => match r with | .ok (.ret v) => EP X pins σ Q v s' | .ok _ => False | .error e => X.xe e s') s := by
  refine codeAny_mono (F X.A X.stack s H us vs Q _ hr I.env0 r h) fun r s' hq => ?_
  cases r with
  | error e => exact passW tk σ pins H s e s' I hq
  | ok fl =>
    cases fl with
    | ret u => exact I.after hq
    | next => exact False.elim hq
    | brk => exact False.elim hq
    | cont => exact False.elim hq
theorem pe_callF (F : FnR X.prog X.w X.K X.mg X.base (L2.CX X.prog X.w) k f sp) (hr : Room k X.A) (tk : Takes X W) (hg : Gl X x) (hm : X.mg x = some (.ref f)) (hk : PySem.W.keepIn X.K (.ref f) = true) (ha : PA X (e :: es) t)
    (hdb : (x == ("__debug__" : Str)) = false := by decide) (he : starEach (e :: es) X.env = (false, eval e X.env) :: starEach es X.env := by rfl) (hpl : (backTo pos (starEach es X.env)).any (·.1) = false := by rfl) :
    PE X (.Call (.Name x p) (e :: es) [] pos) (tCallF sp W t) := by
  refine ⟨fun pins s σ H Q I h => ?_⟩
  refine wpAny_Call_Name_kw (ld_glob I hg hm ?_ hdb)
  refine PySem.W.callWith_K (h₀ := X.base) I.ok.mod.kin hk (thn (ha.run pos pins s σ H _ I h) fun us s1 ⟨vs, H1, I1, r, q⟩ => ⟨I1.kIn, ?_⟩) he hpl
  exact wpAny_call (run_F F hr tk I1 r q)
theorem pe_callF0 (F : FnR X.prog X.w X.K X.mg X.base (L2.CX X.prog X.w) k f sp) (hr : Room k X.A) (tk : Takes X W) (hg : Gl X x) (hm : X.mg x = some (.ref f)) (hk : PySem.W.keepIn X.K (.ref f) = true)
    (hdb : (x == ("__debug__" : Str)) = false := by decide) : PE X (.Call (.Name x p) [] [] pos) (tCallF sp W tNil) := by
  refine ⟨fun pins s σ H Q I h => ?_⟩
  refine wpAny_Call_Name_kw (ld_glob I hg hm ?_ hdb)
  exact PySem.W.callWith_K0 I.kIn hk (wpAny_call (run_F (us := []) F hr tk I .nil h))
theorem pe_methF {pl : Sem Bool} (he : PE X o ta) (c : Cls X.K C) (hm : Meth X.K C m f) (F : FnR X.prog X.w X.K X.mg X.base (L2.CX X.prog X.w) k f sp) (hr : Room k X.A) (tk : Takes X W) (ha : PA X (e :: es) t)
    (hst : starEach (e :: es) X.env = (false, eval e X.env) :: starEach es X.env := by rfl) (hpl : (backTo pos (starEach es X.env)).any (·.1) = false := by rfl)
    (ht : eval (.Call (.Attribute o m apos) (e :: es) [] pos) X.env = (do
      let ov ← eval o X.env
      standAt apos.atName
      let (f, first) ← holding [ov] (getMethod ov m pl)
      callWith pos f first (backTo pos (starEach (e :: es) X.env)) (backToKw pos (keywordEach [] X.env))) := by rfl) :
    PE X (.Call (.Attribute o m apos) (e :: es) [] pos) (tMethF C m sp W ta t) := by
  refine ⟨fun pins s σ H Q I h => ?_⟩
  refine PySem.W.methodCall_KW (pl := pl) (thn (he.run pins s σ H _ I h) fun u s1 ⟨x, H1, I1, rx, a, dx, fs, ex, ea, l, q⟩ => ?_) ht
  subst ex
  obtain rfl : u = Value.ref a := rx
  refine getmeth_ok I1 ea c hm l ?_
  refine PySem.W.callWith_K (first := [.ref a]) (h₀ := X.base) I.ok.mod.kin hm.kp (thn (ha.run pos pins s1 σ H1 _ I1 q) fun us s2 ⟨vs, H2, I2, r, q2⟩ => ⟨I2.kIn, ?_⟩) hst hpl
  exact wpAny_call (run_F (us := .ref a :: us) (vs := .ref a :: vs) F hr tk I2 (.cons rfl r) q2)
theorem pe_methF0 {pl : Sem Bool} (he : PE X o ta) (c : Cls X.K C) (hm : Meth X.K C m f) (F : FnR X.prog X.w X.K X.mg X.base (L2.CX X.prog X.w) k f sp) (hr : Room k X.A) (tk : Takes X W)
    (ht : eval (.Call (.Attribute o m apos) [] [] pos) X.env = (do
      let ov ← eval o X.env
      standAt apos.atName
      let (f, first) ← holding [ov] (getMethod ov m pl)
      callWith pos f first (backTo pos (starEach [] X.env)) (backToKw pos (keywordEach [] X.env))) := by rfl) :
    PE X (.Call (.Attribute o m apos) [] [] pos) (tMethF C m sp W ta tNil) := by
  refine ⟨fun pins s σ H Q I h => ?_⟩
  refine PySem.W.methodCall_KW (pl := pl) (thn (he.run pins s σ H _ I h) fun u s1 ⟨x, H1, I1, rx, a, dx, fs, ex, ea, l, q⟩ => ?_) ht
  subst ex
  obtain rfl : u = Value.ref a := rx
  refine getmeth_ok I1 ea c hm l ?_
  refine PySem.W.callWith_K0 (first := [.ref a]) I1.kIn hm.kp ?_
  exact wpAny_call (run_F (us := [.ref a]) (vs := [.ref a]) F hr tk I1 (.cons rfl .nil) q)
theorem run_makeF {Q : VK} {us : List Value} {vs : List V} (M : Mk X.K C f) (F : FnR X.prog X.w X.K X.mg X.base (L2.CX X.prog X.w) k f sp) (hr : Room (k + 1) X.A) (tk : Takes X W) (I : Inv X pins σ H s) (r : Vals vs us)
    (h : ∀ x dx, H x = Option.none → H dx = Option.none → dx ≠ x → sp (V.ref x :: vs) (upd (upd H dx (.own x)) x (.ins C dx [])) (fun v H2 => v = .non ∧ Q (.ref x) H2) (fun cls d H' => W cls d σ H')) :
    wpAny (model X.prog X.w) X.A (call (.ref C) us) (EP X pins σ Q) X.xe s := by
  have hq := h (s.heap.objs.size + 1) s.heap.objs.size (I.hok.fresh (Nat.le_succ _)) (I.hok.fresh (Nat.le_refl _)) (Nat.ne_of_lt (Nat.lt_succ_self _))
  have I2 := Inv.made (C := C) I
  have r2 : Vals (V.ref (s.heap.objs.size + 1) :: vs) (Value.ref (s.heap.objs.size + 1) :: us) := .cons rfl r
  refine wpAny_call (make_map (f := f) I.kIn M.makes M.init (beq_iff_eq.mp M.fn) (codeAny_mono (F _ X.stack _ _ (Value.ref (s.heap.objs.size + 1) :: us) _ _ _ (hr.make C us []) (I2.env0.make C us []) r2 hq) fun r s' hq' => ?_))
  cases r with
  | error e => exact passW tk σ pins _ _ e s' I2 hq'
  | ok fl =>
    cases fl with
    | ret u =>
      obtain ⟨v, H', I3, rv, ev, q3⟩ := I2.after hq'
      subst ev
      exact ⟨rv, ⟨V.ref (s.heap.objs.size + 1), H', I3, rfl, q3⟩⟩
    | next => exact False.elim hq'
    | brk => exact False.elim hq'
    | cont => exact False.elim hq'
theorem pe_makeF (M : Mk X.K C f) (F : FnR X.prog X.w X.K X.mg X.base (L2.CX X.prog X.w) k f sp) (hr : Room (k + 1) X.A) (tk : Takes X W) (hg : Gl X x) (hm : X.mg x = some (.ref C)) (ha : PA X (e :: es) t) (hdb : (x == ("__debug__" : Str)) = false := by decide)
    (he : starEach (e :: es) X.env = (false, eval e X.env) :: starEach es X.env := by rfl) (hpl : (backTo pos (starEach es X.env)).any (·.1) = false := by rfl) : PE X (.Call (.Name x p) (e :: es) [] pos) (tMakeF C sp W t) := by
  refine ⟨fun pins s σ H Q I h => ?_⟩
  refine wpAny_Call_Name_kw (ld_glob I hg hm ?_ hdb)
  refine PySem.W.callWith_K (h₀ := X.base) I.ok.mod.kin M.kp (thn (ha.run pos pins s σ H _ I h) fun us s1 ⟨vs, H1, I1, r, q⟩ => ⟨I1.kIn, ?_⟩) he hpl
  exact run_makeF M F hr tk I1 r q
theorem pe_makeF0 (M : Mk X.K C f) (F : FnR X.prog X.w X.K X.mg X.base (L2.CX X.prog X.w) k f sp) (hr : Room (k + 1) X.A) (tk : Takes X W) (hg : Gl X x) (hm : X.mg x = some (.ref C)) (hdb : (x == ("__debug__" : Str)) = false := by decide) :
    PE X (.Call (.Name x p) [] [] pos) (tMakeF C sp W tNil) := by
  refine ⟨fun pins s σ H Q I h => ?_⟩
  refine wpAny_Call_Name_kw (ld_glob I hg hm ?_ hdb)
  exact PySem.W.callWith_K0 I.kIn M.kp (run_makeF (us := []) M F hr tk I .nil h)
/-- cls(..), cls a local name that holds the class at C -/
theorem pe_makeLF (M : Mk X.K C f) (F : FnR X.prog X.w X.K X.mg X.base (L2.CX X.prog X.w) k f sp) (hr : Room (k + 1) X.A) (tk : Takes X W) (hN : X.N[i]? = some x) (hv : Vis X.env.scope x) (ha : PA X (e :: es) t)
    (hdb : (x == ("__debug__" : Str)) = false := by decide) (hcd : (x == ("__classdict__" : Str)) = false := by decide)
    (he : starEach (e :: es) X.env = (false, eval e X.env) :: starEach es X.env := by rfl) (hpl : (backTo pos (starEach es X.env)).any (·.1) = false := by rfl) : PE X (.Call (.Name x p) (e :: es) [] pos) (tMakeLF i C sp W t) := by
  refine ⟨fun pins s σ H Q I h => ?_⟩
  obtain ⟨hs, ht⟩ := h
  refine wpAny_Call_Name_kw (thn ((pe_var (pos := p) hN hv hdb hcd).run pins s σ H (fun v H1 => v = .ref C ∧ H1 = H) I ⟨.ref C, hs, rfl, rfl⟩) fun u s1 ⟨v, H1, I1, r1, q1⟩ => ?_)
  obtain ⟨rfl, rfl⟩ := q1
  cases r1
  refine PySem.W.callWith_K (h₀ := X.base) I.ok.mod.kin M.kp (thn (ha.run pos pins s1 σ _ _ I1 ht) fun us s2 ⟨vs, H2, I2, r, q⟩ => ⟨I2.kIn, ?_⟩) he hpl
  exact run_makeF M F hr tk I2 r q
theorem pe_makeLF0 (M : Mk X.K C f) (F : FnR X.prog X.w X.K X.mg X.base (L2.CX X.prog X.w) k f sp) (hr : Room (k + 1) X.A) (tk : Takes X W) (hN : X.N[i]? = some x) (hv : Vis X.env.scope x)
    (hdb : (x == ("__debug__" : Str)) = false := by decide) (hcd : (x == ("__classdict__" : Str)) = false := by decide) : PE X (.Call (.Name x p) [] [] pos) (tMakeLF i C sp W tNil) := by
  refine ⟨fun pins s σ H Q I h => ?_⟩
  obtain ⟨hs, ht⟩ := h
  refine wpAny_Call_Name_kw (thn ((pe_var (pos := p) hN hv hdb hcd).run pins s σ H (fun v H1 => v = .ref C ∧ H1 = H) I ⟨.ref C, hs, rfl, rfl⟩) fun u s1 ⟨v, H1, I1, r1, q1⟩ => ?_)
  obtain ⟨rfl, rfl⟩ := q1
  cases r1
  exact PySem.W.callWith_K0 I1.kIn M.kp (run_makeF (us := []) M F hr tk I1 .nil ht)
/-- C.m(..), C a module's name of a class, m its classmethod -/
theorem pe_cmethF {mc : Value} {g q : Addr} {pl : Sem Bool} (hg : Gl X x) (hm : X.mg x = some (.ref C)) (r : ClX.CRead X.K C mc) (c : ClX.CMet X.K C mc m q g) (F : FnR X.prog X.w X.K X.mg X.base (L2.CX X.prog X.w) k g sp) (hr : Room k X.A) (tk : Takes X W) (ha : PA X (e :: es) t)
    (hdb : (x == ("__debug__" : Str)) = false := by decide) (hst : starEach (e :: es) X.env = (false, eval e X.env) :: starEach es X.env := by rfl) (hpl : (backTo pos (starEach es X.env)).any (·.1) = false := by rfl)
    (ht : eval (.Call (.Attribute (.Name x p) m apos) (e :: es) [] pos) X.env = (do
      let ov ← eval (.Name x p) X.env
      standAt apos.atName
      let (f, first) ← holding [ov] (getMethod ov m pl)
      callWith pos f first (backTo pos (starEach (e :: es) X.env)) (backToKw pos (keywordEach [] X.env))) := by rfl) :
    PE X (.Call (.Attribute (.Name x p) m apos) (e :: es) [] pos) (tCMethF C sp W t) := by
  refine ⟨fun pins s σ H Q I h => ?_⟩
  refine PySem.W.methodCall_KW (pl := pl) (ld_glob I hg hm ?_ hdb) ht
  refine ClX.getmethcm_ok I r c fun s2 I2 => ?_
  refine ClX.callwith_cm I2 (ClX.base_none I (Nat.le_refl _)) c.fi (thn (ha.run pos _ s2 σ H _ I2 h) fun us s3 ⟨vs, H2, I3, rv, q2⟩ => ⟨⟨ClX.pin_at I3, I3.kIn⟩, ?_⟩) hst hpl
  have z : wpAny (model X.prog X.w) X.A (call (.ref _) us) (EP X (_ :: pins) σ Q) X.xe s3 :=
    wpAny_call (PySem.W.method_call (ClX.pin_at I3) (run_F (us := .ref C :: us) (vs := .ref C :: vs) F hr tk I3 (.cons rfl rv) q2))
  exact thn z fun _ _ y => ClX.unpinE y
end

/-! ### operators by the kinds of their values -/
theorem opr_or {X : Cx} {f : Value → Value → Sem Value} {r1 r2 : R2} (h1 : OpR X f r1) (h2 : OpR X f r2) : OpR X f (fun x y H Q => r1 x y H Q ∨ r2 x y H Q) := by
  intro pins s σ H x y u v Q I ru rv h
  rcases h with h | h
  · exact h1 pins s σ H x y u v Q I ru rv h
  · exact h2 pins s σ H x y u v Q I ru rv h
end Go
namespace Go
open PySem PySem.Spec PyProof.Rows L2

/-! ### operators, whatever the kinds -/
def rAddS : R2 := fun x y H Q => ∃ i j, x = .str i ∧ y = .str j ∧ i.length + j.length ≤ sizeLine ∧ Q (.str (i ++ j)) H
def rAddA (K : PySem.W.Frag) : R2 := fun x y H Q => rI0 (fun i j => .int (i + j)) x y H Q ∨ (rAddS x y H Q ∨ (rCat x y H Q ∨ rCatA K x y H Q))
def rSubA : R2 := rI0 fun i j => .int (i - j)
def CDivA (_ j : Int) : Prop := j ≠ 0 ∧ j.natAbs.log2 < 9000
def rFdvA : R2 := rI CDivA fun i j => .int (i.fdiv j)
def rModA : R2 := rI (fun _ j => j ≠ 0) fun i j => .int (i.fmod j)
def rPowA : R2 := rI CPow fun i j => .int (i ^ j.toNat)
def rMulI : R2 := rI CMulW fun i j => .int (i * j)
def rLtA : R2 := rI0 fun i j => .bl (decide (i < j))
def rLeA : R2 := rI0 fun i j => .bl (decide (i ≤ j))
def rGtA : R2 := rI0 fun i j => .bl (decide (j < i))
def rGeA : R2 := rI0 fun i j => .bl (decide (j ≤ i))
def rEqA (K : PySem.W.Frag) : R2 := fun x y H Q => rEq x y H Q ∨ rEqD K x y H Q
def rNeA (K : PySem.W.Frag) : R2 := fun x y H Q => rNe x y H Q ∨ rNeD K x y H Q
def rInS : R2 := fun x y H Q => ∃ (c : Nat) (z : Str), x = .str ⟨#[c]⟩ ∧ y = .str z ∧ Q (.bl (decide (c ∈ z.cps.toList))) H
def rNiS : R2 := fun x y H Q => ∃ (c : Nat) (z : Str), x = .str ⟨#[c]⟩ ∧ y = .str z ∧ Q (.bl (!decide (c ∈ z.cps.toList))) H
def rInA (K : PySem.W.Frag) : R2 := fun x y H Q => rIn K false x y H Q ∨ rInS x y H Q
def rNiA (K : PySem.W.Frag) : R2 := fun x y H Q => rIn K true x y H Q ∨ rNiS x y H Q
def rSlG (K : PySem.W.Frag) : V → Option Int → Option Int → Hp → VK → Prop := fun x lo hi H Q => rSlL K x lo hi H Q ∨ (rSlA K x lo hi H Q ∨ rSlS x lo hi H Q)
def rIsNA : R2 := fun x y H Q => y = .non ∧ Q (.bl (decide (x = .non))) H
def rNotNA : R2 := fun x y H Q => y = .non ∧ Q (.bl (!decide (x = .non))) H
section
variable {X : Cx}
theorem o_add : OpR X (binaryOp .Add) (rAddA X.K) := opr_or op_add (opr_or op_add_str (opr_or op_cat op_catA))
theorem o_sub : OpR X (binaryOp .Sub) rSubA := op_sub
theorem o_fdv : OpR X (binaryOp .FloorDiv) rFdvA := opI fun i j _ _ _ _ _ hc q => floordiv_int hc.1 q (.inl (PyProof.noPylong_of_log2 hc.2))
theorem o_mod : OpR X (binaryOp .Mod) rModA := op_modN
theorem o_pow : OpR X (binaryOp .Pow) rPowA := op_pow
theorem o_mul : OpR X (binaryOp .Mult) rMulI := op_mulW
theorem o_lt : OpR X (compareOp .Lt) rLtA := op_lt
theorem o_le : OpR X (compareOp .LtE) rLeA := op_le
theorem o_gt : OpR X (compareOp .Gt) rGtA := op_gt
theorem o_ge : OpR X (compareOp .GtE) rGeA := op_ge
theorem o_eq (hu : X.A.units + 64 < cLine) : OpR X (compareOp .Eq) (rEqA X.K) := opr_or op_eq (op_eqD hu)
theorem o_ne (hu : X.A.units + 64 < cLine) : OpR X (compareOp .NotEq) (rNeA X.K) := opr_or op_ne (op_neD hu)
theorem o_in : OpR X (compareOp .In) (rInA X.K) := opr_or op_in_seq op_in_sign
theorem o_ni : OpR X (compareOp .NotIn) (rNiA X.K) := opr_or op_notIn_seq op_notIn_sign
theorem slr_or {f g : V → Option Int → Option Int → Hp → VK → Prop} (h1 : SlR X f) (h2 : SlR X g) : SlR X (fun x lo hi H Q => f x lo hi H Q ∨ g x lo hi H Q) := by
  intro pins s σ H x v vl vu lo hi sl Q I rx hs pl pu h
  rcases h with h | h
  · exact h1 pins s σ H x v vl vu lo hi sl Q I rx hs pl pu h
  · exact h2 pins s σ H x v vl vu lo hi sl Q I rx hs pl pu h
theorem o_sl : SlR X (rSlG X.K) := slr_or sl_list (slr_or sl_tupA sl_str)
theorem o_isN : OpR X (compareOp .Is) rIsNA := op_isN
theorem o_notN : OpR X (compareOp .IsNot) rNotNA := op_notN
end

/-! ### steps of readings -/
section
variable {K : PySem.W.Frag} {σ : L2.St} {H : Hp} {Q : VK} {v w x y z : V} {ta tb te tc : TE} {c : TT} {t u : TS} {g : TG} {n : L2.St → Hp → Prop} {r : V → Hp → Prop} {b ct : L2.St → Hp → Prop} {i j : Int} {s1 s2 : Str} {p q : Addr} {xs ys : List V}

theorem g_seq (h : t ⟨u ⟨n, r, b, ct⟩, r, b, ct⟩ σ H) : tSeq t u ⟨n, r, b, ct⟩ σ H := h
theorem g_next (h : n σ H) : tNext ⟨n, r, b, ct⟩ σ H := h
theorem g_asg (h : te σ H fun x H1 => g x σ H1 n) : tAsg te g ⟨n, r, b, ct⟩ σ H := h
theorem g_drop (h : te σ H fun _ H1 => n σ H1) : tDrop te ⟨n, r, b, ct⟩ σ H := h
theorem g_ret (h : te σ H r) : tRet te ⟨n, r, b, ct⟩ σ H := h
theorem g_retN (h : r .non H) : tRetN ⟨n, r, b, ct⟩ σ H := h
theorem g_brk (h : b σ H) : tBreak ⟨n, r, b, ct⟩ σ H := h
theorem g_cont (h : ct σ H) : tCont ⟨n, r, b, ct⟩ σ H := h
theorem g_if (h : c σ H fun k H1 => if k = true then t ⟨n, r, b, ct⟩ σ H1 else u ⟨n, r, b, ct⟩ σ H1) : tIfS c t u ⟨n, r, b, ct⟩ σ H := h
theorem g_test {Q : Bool → Hp → Prop} (h : te σ H fun x H' => ∃ k, x = .bl k ∧ Q k H') : tTest te σ H Q := h
theorem g_tB {Q : Bool → Hp → Prop} (h : te σ H fun x H' => ∃ k, x = .bl k ∧ Q k H') : tB te σ H Q := h
theorem g_bl {P : Bool → Prop} {k : Bool} (h : P k) : ∃ k', V.bl k = .bl k' ∧ P k' := ⟨k, rfl, h⟩
theorem g_not {Q : Bool → Hp → Prop} (h : c σ H fun k H1 => Q (!k) H1) : tNot c σ H Q := h
theorem g_and {d : TT} {Q : Bool → Hp → Prop} (h : c σ H fun k H1 => if k = true then d σ H1 Q else Q false H1) : tAnd c d σ H Q := h
theorem g_or {d : TT} {Q : Bool → Hp → Prop} (h : c σ H fun k H1 => if k = true then Q true H1 else d σ H1 Q) : tOr c d σ H Q := h
theorem g_notV (h : ta σ H fun x H1 => ∃ k, x = .bl k ∧ Q (.bl (!k)) H1) : tNotV ta σ H Q := h
theorem g_andV (h : ta σ H fun x H1 => ∃ k, x = .bl k ∧ if k = true then tb σ H1 Q else Q (.bl false) H1) : tAndV ta tb σ H Q := h
theorem g_orV (h : ta σ H fun x H1 => ∃ k, x = .bl k ∧ if k = true then Q (.bl true) H1 else tb σ H1 Q) : tOrV ta tb σ H Q := h
theorem g_ifE (h : c σ H fun k H1 => if k = true then ta σ H1 Q else tb σ H1 Q) : tIf c ta tb σ H Q := h
theorem g_c (h : Q v H) : tC v σ H Q := h
theorem g_op {r : R2} (h : ta σ H fun x H1 => tb σ H1 fun y H2 => r x y H2 Q) : tOp r ta tb σ H Q := h
theorem g_un {r : V → Hp → VK → Prop} (h : ta σ H fun x H1 => r x H1 Q) : tUn r ta σ H Q := h
theorem g_chain {r r' : R2} (h : ta σ H fun x H1 => tb σ H1 fun y H2 => r x y H2 fun z H3 => ∃ k, z = .bl k ∧ if k = true then tc σ H3 (fun w H4 => r' y w H4 Q) else Q (.bl false) H3) : tChain r r' ta tb tc σ H Q := h
theorem g_nil {Q : List V → Hp → Prop} (h : Q [] H) : tNil σ H Q := h
theorem g_cons {tr : TA} {Q : List V → Hp → Prop} (h : ta σ H fun x H1 => tr σ H1 fun xs H2 => Q (x :: xs) H2) : tCons ta tr σ H Q := h
theorem g_tup {t : TA} (h : t σ H fun xs H1 => xs.length ≤ sizeLine ∧ ∀ p, H1 p = none → Q (.ref p) (upd H1 p (.tup xs))) : tTup t σ H Q := h
theorem g_lst {t : TA} (h : t σ H fun xs H1 => xs.length ≤ sizeLine ∧ ∀ p, H1 p = none → Q (.ref p) (upd H1 p (.lst xs))) : tLst t σ H Q := h
theorem g_cb {r : List V → Hp → VK → Prop} {t : TA} (h : t σ H fun vs H1 => r vs H1 Q) : tCB r t σ H Q := h
theorem g_call {sp : Sp} {W : WX} {t : TA} (h : t σ H fun vs H1 => sp vs H1 Q (fun cls d H' => W cls d σ H')) : tCallF sp W t σ H Q := h
theorem g_cmeth {C : Addr} {sp : Sp} {W : WX} {t : TA} (h : t σ H fun vs H1 => sp (.ref C :: vs) H1 Q (fun cls d H' => W cls d σ H')) : tCMethF C sp W t σ H Q := h
theorem g_make {C : Addr} {sp : Sp} {W : WX} {t : TA} (h : t σ H fun vs H1 => ∀ x dx, H1 x = none → H1 dx = none → dx ≠ x →
  sp (.ref x :: vs) (upd (upd H1 dx (.own x)) x (.ins C dx [])) (fun v H2 => v = .non ∧ Q (.ref x) H2) (fun cls d H' => W cls d σ H')) : tMakeF C sp W t σ H Q := h
theorem g_noPart {Q : Option Int → Hp → Prop} (h : Q none H) : tNoPart σ H Q := h
theorem g_part {Q : Option Int → Hp → Prop} (h : te σ H fun x H1 => ∃ i, x = .int i ∧ Q (some i) H1) : tPart te σ H Q := h
theorem g_partI {P : Int → Prop} (h : P i) : ∃ i', V.int i = .int i' ∧ P i' := ⟨i, rfl, h⟩
theorem g_sl {r : V → Option Int → Option Int → Hp → VK → Prop} {tl th : TO} (h : te σ H fun x H1 => tl σ H1 fun l H2 => th σ H2 fun u H3 => r x l u H3 Q) : tSl r te tl th σ H Q := h
theorem g_m1 {r : V → List V → Hp → VK → Prop} (h : ta σ H fun x H1 => (∃ a, x = .str a) ∧ te σ H1 fun y H2 => r x [y] H2 Q) : tM1 r ta te σ H Q := h
theorem g_m0 {r : V → List V → Hp → VK → Prop} (h : ta σ H fun x H1 => (∃ a, x = .str a) ∧ r x [] H1 Q) : tM0 r ta σ H Q := h
theorem g_isS {P : Prop} (h : P) : (∃ a, V.str s1 = .str a) ∧ P := ⟨⟨s1, rfl⟩, h⟩
theorem g_for {wi : TI} {tb : TS} (h : wi σ H fun J H1 => ∃ W : Nat → Nat → L2.St → Hp → Prop, (∃ m, W 0 m σ H1) ∧ ∀ i m σ H, W i m σ H →
  (J.stop i H ∧ n σ H) ∨ (J.go i H ∧ ∃ N : L2.St → Hp → Prop, (∀ σ' H', N σ' H' → ∃ m', m' < m ∧ W (i + 1) m' σ' H') ∧ ∀ x H', J.yld i H x H' → g x σ H' fun σ2 H2 => tb ⟨N, r, n, N⟩ σ2 H2)) : tFor wi g tb ⟨n, r, b, ct⟩ σ H := h

-- names
theorem g_v0 {s : L2.St} (h : Q v H) : tVar 0 (some v :: s) H Q := ⟨v, rfl, h⟩
theorem g_v1 {a : Option V} {s : L2.St} (h : Q v H) : tVar 1 (a :: some v :: s) H Q := ⟨v, rfl, h⟩
theorem g_v2 {a a1 : Option V} {s : L2.St} (h : Q v H) : tVar 2 (a :: a1 :: some v :: s) H Q := ⟨v, rfl, h⟩
theorem g_v3 {a a1 a2 : Option V} {s : L2.St} (h : Q v H) : tVar 3 (a :: a1 :: a2 :: some v :: s) H Q := ⟨v, rfl, h⟩
theorem g_v4 {a a1 a2 a3 : Option V} {s : L2.St} (h : Q v H) : tVar 4 (a :: a1 :: a2 :: a3 :: some v :: s) H Q := ⟨v, rfl, h⟩
theorem g_v5 {a a1 a2 a3 a4 : Option V} {s : L2.St} (h : Q v H) : tVar 5 (a :: a1 :: a2 :: a3 :: a4 :: some v :: s) H Q := ⟨v, rfl, h⟩
theorem g_v6 {a a1 a2 a3 a4 a5 : Option V} {s : L2.St} (h : Q v H) : tVar 6 (a :: a1 :: a2 :: a3 :: a4 :: a5 :: some v :: s) H Q := ⟨v, rfl, h⟩
theorem g_v7 {a a1 a2 a3 a4 a5 a6 : Option V} {s : L2.St} (h : Q v H) : tVar 7 (a :: a1 :: a2 :: a3 :: a4 :: a5 :: a6 :: some v :: s) H Q := ⟨v, rfl, h⟩
theorem g_v8 {a a1 a2 a3 a4 a5 a6 a7 : Option V} {s : L2.St} (h : Q v H) : tVar 8 (a :: a1 :: a2 :: a3 :: a4 :: a5 :: a6 :: a7 :: some v :: s) H Q := ⟨v, rfl, h⟩
theorem g_v9 {a a1 a2 a3 a4 a5 a6 a7 a8 : Option V} {s : L2.St} (h : Q v H) : tVar 9 (a :: a1 :: a2 :: a3 :: a4 :: a5 :: a6 :: a7 :: a8 :: some v :: s) H Q := ⟨v, rfl, h⟩
theorem g_v10 {a a1 a2 a3 a4 a5 a6 a7 a8 a9 : Option V} {s : L2.St} (h : Q v H) : tVar 10 (a :: a1 :: a2 :: a3 :: a4 :: a5 :: a6 :: a7 :: a8 :: a9 :: some v :: s) H Q := ⟨v, rfl, h⟩
theorem g_v11 {a a1 a2 a3 a4 a5 a6 a7 a8 a9 a10 : Option V} {s : L2.St} (h : Q v H) : tVar 11 (a :: a1 :: a2 :: a3 :: a4 :: a5 :: a6 :: a7 :: a8 :: a9 :: a10 :: some v :: s) H Q := ⟨v, rfl, h⟩
theorem g_v12 {a a1 a2 a3 a4 a5 a6 a7 a8 a9 a10 a11 : Option V} {s : L2.St} (h : Q v H) : tVar 12 (a :: a1 :: a2 :: a3 :: a4 :: a5 :: a6 :: a7 :: a8 :: a9 :: a10 :: a11 :: some v :: s) H Q := ⟨v, rfl, h⟩
variable {G : L2.St → Hp → Prop}
theorem g_n0 {a : Option V} {s : L2.St} (h : G (some v :: s) H) : gName 0 v (a :: s) H G := h
theorem g_n1 {a a1 : Option V} {s : L2.St} (h : G (a :: some v :: s) H) : gName 1 v (a :: a1 :: s) H G := h
theorem g_n2 {a a1 a2 : Option V} {s : L2.St} (h : G (a :: a1 :: some v :: s) H) : gName 2 v (a :: a1 :: a2 :: s) H G := h
theorem g_n3 {a a1 a2 a3 : Option V} {s : L2.St} (h : G (a :: a1 :: a2 :: some v :: s) H) : gName 3 v (a :: a1 :: a2 :: a3 :: s) H G := h
theorem g_n4 {a a1 a2 a3 a4 : Option V} {s : L2.St} (h : G (a :: a1 :: a2 :: a3 :: some v :: s) H) : gName 4 v (a :: a1 :: a2 :: a3 :: a4 :: s) H G := h
theorem g_n5 {a a1 a2 a3 a4 a5 : Option V} {s : L2.St} (h : G (a :: a1 :: a2 :: a3 :: a4 :: some v :: s) H) : gName 5 v (a :: a1 :: a2 :: a3 :: a4 :: a5 :: s) H G := h
theorem g_n6 {a a1 a2 a3 a4 a5 a6 : Option V} {s : L2.St} (h : G (a :: a1 :: a2 :: a3 :: a4 :: a5 :: some v :: s) H) : gName 6 v (a :: a1 :: a2 :: a3 :: a4 :: a5 :: a6 :: s) H G := h
theorem g_n7 {a a1 a2 a3 a4 a5 a6 a7 : Option V} {s : L2.St} (h : G (a :: a1 :: a2 :: a3 :: a4 :: a5 :: a6 :: some v :: s) H) : gName 7 v (a :: a1 :: a2 :: a3 :: a4 :: a5 :: a6 :: a7 :: s) H G := h
theorem g_n8 {a a1 a2 a3 a4 a5 a6 a7 a8 : Option V} {s : L2.St} (h : G (a :: a1 :: a2 :: a3 :: a4 :: a5 :: a6 :: a7 :: some v :: s) H) : gName 8 v (a :: a1 :: a2 :: a3 :: a4 :: a5 :: a6 :: a7 :: a8 :: s) H G := h
theorem g_n9 {a a1 a2 a3 a4 a5 a6 a7 a8 a9 : Option V} {s : L2.St} (h : G (a :: a1 :: a2 :: a3 :: a4 :: a5 :: a6 :: a7 :: a8 :: some v :: s) H) : gName 9 v (a :: a1 :: a2 :: a3 :: a4 :: a5 :: a6 :: a7 :: a8 :: a9 :: s) H G := h
theorem g_n10 {a a1 a2 a3 a4 a5 a6 a7 a8 a9 a10 : Option V} {s : L2.St} (h : G (a :: a1 :: a2 :: a3 :: a4 :: a5 :: a6 :: a7 :: a8 :: a9 :: some v :: s) H) : gName 10 v (a :: a1 :: a2 :: a3 :: a4 :: a5 :: a6 :: a7 :: a8 :: a9 :: a10 :: s) H G := h
theorem g_n11 {a a1 a2 a3 a4 a5 a6 a7 a8 a9 a10 a11 : Option V} {s : L2.St} (h : G (a :: a1 :: a2 :: a3 :: a4 :: a5 :: a6 :: a7 :: a8 :: a9 :: a10 :: some v :: s) H) : gName 11 v (a :: a1 :: a2 :: a3 :: a4 :: a5 :: a6 :: a7 :: a8 :: a9 :: a10 :: a11 :: s) H G := h
theorem g_n12 {a a1 a2 a3 a4 a5 a6 a7 a8 a9 a10 a11 a12 : Option V} {s : L2.St} (h : G (a :: a1 :: a2 :: a3 :: a4 :: a5 :: a6 :: a7 :: a8 :: a9 :: a10 :: a11 :: some v :: s) H) : gName 12 v (a :: a1 :: a2 :: a3 :: a4 :: a5 :: a6 :: a7 :: a8 :: a9 :: a10 :: a11 :: a12 :: s) H G := h
-- targets that are tuples
theorem g_gtup {k : Nat} {ts : TGs} (h : SqT K H p xs) (hl : xs.length = k) (h2 : ts xs σ H G) : gTup K k ts (.ref p) σ H G := ⟨p, xs, rfl, h, hl, h2⟩
theorem g_gcons {ts : TGs} (h : g v σ H fun σ' H' => ts xs σ' H' G) : gCons g ts (v :: xs) σ H G := ⟨v, xs, rfl, h⟩
theorem g_gnil (h : G σ H) : gNil [] σ H G := ⟨rfl, h⟩
theorem g_gsub {to ti : TE} {ts : TSet} (h : to σ H fun o H1 => ti σ H1 fun i H2 => ts o i v H2 fun H3 => G σ H3) : gSub to ti ts v σ H G := h
theorem g_setL {Q : Hp → Prop} {j : Nat} (hl : H p = some (.lst xs)) (hi : ixN xs.length i = some j) (h : Q (upd H p (.lst (xs.set j v)))) : rSetL (.ref p) (.int i) v H Q := ⟨p, xs, i, j, rfl, rfl, hl, hi, h⟩

-- operators on values
theorem g_addI (h : Q (.int (i + j)) H) : rAddA K (.int i) (.int j) H Q := .inl ⟨i, j, rfl, rfl, h⟩
theorem g_addS (hl : s1.length + s2.length ≤ sizeLine) (h : Q (.str (s1 ++ s2)) H) : rAddA K (.str s1) (.str s2) H Q := .inr (.inl ⟨s1, s2, rfl, rfl, hl, h⟩)
theorem g_addL (h1 : H p = some (.lst xs)) (h2 : H q = some (.lst ys)) (hl : xs.length + ys.length ≤ sizeLine) (h : ∀ a, H a = none → Q (.ref a) (upd H a (.lst (xs ++ ys)))) : rAddA K (.ref p) (.ref q) H Q :=
  .inr (.inr (.inl ⟨p, q, xs, ys, rfl, rfl, h1, h2, hl, h⟩))
theorem g_subI (h : Q (.int (i - j)) H) : rSubA (.int i) (.int j) H Q := ⟨i, j, rfl, rfl, h⟩
theorem g_mulI (hc : CMulW i j) (h : Q (.int (i * j)) H) : rMulI (.int i) (.int j) H Q := ⟨i, j, rfl, rfl, hc, h⟩
theorem g_fdvI (h0 : 0 < j) (hl : j.natAbs.log2 < 9000) (h : Q (.int (i / j)) H) : rFdvA (.int i) (.int j) H Q := ⟨i, j, rfl, rfl, ⟨by omega, hl⟩, by show Q (.int (i.fdiv j)) H; rw [Int.fdiv_eq_ediv_of_nonneg i (by omega)]; exact h⟩
theorem g_fdvZ (h0 : j ≠ 0) (hl : j.natAbs.log2 < 9000) (h : Q (.int (i.fdiv j)) H) : rFdvA (.int i) (.int j) H Q := ⟨i, j, rfl, rfl, ⟨h0, hl⟩, h⟩
theorem g_modI (h0 : 0 < j) (h : Q (.int (i % j)) H) : rModA (.int i) (.int j) H Q := ⟨i, j, rfl, rfl, by omega, by show Q (.int (i.fmod j)) H; rw [Int.fmod_eq_emod_of_nonneg i (by omega)]; exact h⟩
theorem g_powI (hc : CPow i j) (h : Q (.int (i ^ j.toNat)) H) : rPowA (.int i) (.int j) H Q := ⟨i, j, rfl, rfl, hc, h⟩
theorem g_ltI (h : Q (.bl (decide (i < j))) H) : rLtA (.int i) (.int j) H Q := ⟨i, j, rfl, rfl, h⟩
theorem g_leI (h : Q (.bl (decide (i ≤ j))) H) : rLeA (.int i) (.int j) H Q := ⟨i, j, rfl, rfl, h⟩
theorem g_gtI (h : Q (.bl (decide (j < i))) H) : rGtA (.int i) (.int j) H Q := ⟨i, j, rfl, rfl, h⟩
theorem g_geI (h : Q (.bl (decide (j ≤ i))) H) : rGeA (.int i) (.int j) H Q := ⟨i, j, rfl, rfl, h⟩
theorem decI : decide (V.int i = V.int j) = decide (i = j) := decide_eq_decide.mpr ⟨fun e => V.int.inj e, fun e => by rw [e]⟩
theorem decS : decide (V.str s1 = V.str s2) = decide (s1 = s2) := decide_eq_decide.mpr ⟨fun e => V.str.inj e, fun e => by rw [e]⟩
theorem decB {a b : Bool} : decide (V.bl a = V.bl b) = decide (a = b) := decide_eq_decide.mpr ⟨fun e => V.bl.inj e, fun e => by rw [e]⟩
theorem g_eqI (h : Q (.bl (decide (i = j))) H) : rEqA K (.int i) (.int j) H Q := .inl ⟨rfl, by rw [decI]; exact h⟩
theorem g_eqS (h : Q (.bl (decide (s1 = s2))) H) : rEqA K (.str s1) (.str s2) H Q := .inl ⟨rfl, by rw [decS]; exact h⟩
theorem g_neI (h : Q (.bl (!decide (i = j))) H) : rNeA K (.int i) (.int j) H Q := .inl ⟨rfl, by rw [decI]; exact h⟩
theorem g_neS (h : Q (.bl (!decide (s1 = s2))) H) : rNeA K (.str s1) (.str s2) H Q := .inl ⟨rfl, by rw [decS]; exact h⟩
theorem g_isNn (h : Q (.bl true) H) : rIsNA .non .non H Q := ⟨rfl, h⟩
theorem g_isNi (h : Q (.bl false) H) : rIsNA (.int i) .non H Q := ⟨rfl, by rw [decide_eq_false (fun z => nomatch z)]; exact h⟩
theorem g_isNs (h : Q (.bl false) H) : rIsNA (.str s1) .non H Q := ⟨rfl, by rw [decide_eq_false (fun z => nomatch z)]; exact h⟩
theorem g_isNr (h : Q (.bl false) H) : rIsNA (.ref p) .non H Q := ⟨rfl, by rw [decide_eq_false (fun z => nomatch z)]; exact h⟩
theorem g_notNn (h : Q (.bl false) H) : rNotNA .non .non H Q := ⟨rfl, h⟩
theorem g_notNi (h : Q (.bl true) H) : rNotNA (.int i) .non H Q := ⟨rfl, by rw [decide_eq_false (fun z => nomatch z)]; exact h⟩
theorem g_notNs (h : Q (.bl true) H) : rNotNA (.str s1) .non H Q := ⟨rfl, by rw [decide_eq_false (fun z => nomatch z)]; exact h⟩
theorem g_notNr (h : Q (.bl true) H) : rNotNA (.ref p) .non H Q := ⟨rfl, by rw [decide_eq_false (fun z => nomatch z)]; exact h⟩
theorem g_neg (h : Q (.int (-i)) H) : (rU fun i => .int (-i)) (.int i) H Q := ⟨i, rfl, h⟩
theorem g_ixL (hl : SqL K H p xs) (ha : atI xs i = some v) (h : Q v H) : rIx K (.ref p) (.int i) H Q := .inl ⟨p, xs, i, v, rfl, rfl, hl, ha, h⟩
theorem g_ixT (hl : SqT K H p xs) (ha : atI xs i = some v) (h : Q v H) : rIx K (.ref p) (.int i) H Q := .inr (.inl ⟨p, xs, i, v, rfl, rfl, hl, ha, h⟩)
theorem g_ixS {k : Nat} (hl : s1.length ≤ sizeLine) (ha : atI s1.cps.toList i = some k) (h : Q (.str ⟨#[k]⟩) H) : rIx K (.str s1) (.int i) H Q := .inr (.inr ⟨s1, i, k, rfl, rfl, hl, ha, h⟩)
theorem g_inS {k : Nat} (h : Q (.bl (decide (k ∈ s1.cps.toList))) H) : rInA K (.str ⟨#[k]⟩) (.str s1) H Q := .inr ⟨k, s1, rfl, rfl, h⟩
theorem g_niS {k : Nat} (h : Q (.bl (!decide (k ∈ s1.cps.toList))) H) : rNiA K (.str ⟨#[k]⟩) (.str s1) H Q := .inr ⟨k, s1, rfl, rfl, h⟩
theorem g_inT (hl : SqT K H p xs) (hx : flatV x = true) (hf : xs.all flatV = true) (h : Q (.bl (inV x xs)) H) : rInA K x (.ref p) H Q := .inl ⟨p, xs, rfl, .inr hl, hx, hf, h⟩
theorem g_inL (hl : SqL K H p xs) (hx : flatV x = true) (hf : xs.all flatV = true) (h : Q (.bl (inV x xs)) H) : rInA K x (.ref p) H Q := .inl ⟨p, xs, rfl, .inl hl, hx, hf, h⟩
theorem g_niT (hl : SqT K H p xs) (hx : flatV x = true) (hf : xs.all flatV = true) (h : Q (.bl (!inV x xs)) H) : rNiA K x (.ref p) H Q := .inl ⟨p, xs, rfl, .inr hl, hx, hf, h⟩
theorem g_niL (hl : SqL K H p xs) (hx : flatV x = true) (hf : xs.all flatV = true) (h : Q (.bl (!inV x xs)) H) : rNiA K x (.ref p) H Q := .inl ⟨p, xs, rfl, .inl hl, hx, hf, h⟩
-- fields
theorem g_fld (h : ta σ H fun x H1 => ∃ a C dx fs v, x = .ref a ∧ H1 a = some (.ins C dx fs) ∧ Cls K C ∧ NoAttr K C f ∧ fs.lookup f = some v ∧ Q v H1) : tFld K ta f σ H Q := h
end
end Go
namespace Go
open PySem PySem.Spec PyProof.Rows L2 He He5

/-! ### the head's facts: defs, and any Bools of the written part -/
abbrev Fx : Type := PySem.W.Frag → Bool
def obsM (fx : List Fx) (fn : List DefA) (K : PySem.W.Frag) : He.AlD := ((fx.all fun f => f K) && fn.all fun d => d.ok K, fn.map fun d => fnA K (d.at_ K))
def SaysM (fx : List Fx) (fn : List DefA) (K : PySem.W.Frag) : Prop := obsM fx fn K = valA fn
/-- the addresses that are looked at: the module's names' defs with their codes, its classes with what stands in them -/
def refs1 (g : Addr → Option Obj) (a : Addr) : List Addr := match g a with
  | some o => refsD o
  | none => []
def fnAs (g : Addr → Option Obj) (a : Addr) : List Addr := a :: refs1 g a
def memAs (g : Addr → Option Obj) (a : Addr) : List Addr := match g a with
  | some ⟨_, _, .func _, _⟩ => fnAs g a
  | some o => a :: (refsD o).flatMap (fnAs g)
  | none => []
def clsAs (g : Addr → Option Obj) (C : Addr) : List Addr := C :: match g C with
  | some ⟨_, _, .cls cd, _⟩ => cd.ns :: (match g cd.ns with
    | some ⟨_, _, .dict es _, _⟩ => es.toList.flatMap fun e => match e.val with
      | .ref a => memAs g a
      | _ => []
    | _ => [])
  | _ => []
def asL (fs cs os : List Str) (g : Addr → Option Obj) : List Addr := mainGlobals :: cStatics :: (fs.flatMap (fun x => fnAs g (ga (frG g [mainGlobals]) x)) ++ cs.flatMap (fun x => clsAs g (ga (frG g [mainGlobals]) x)) ++ os.map (fun x => ga (frG g [mainGlobals]) x))
def obsMG (as : (Addr → Option Obj) → List Addr) (fx : List Fx) (fn : List DefA) (g : Addr → Option Obj) : He.AlD := obsM fx fn (frG g (as g))
def hookM (as : (Addr → Option Obj) → List Addr) (fx : List Fx) (fn : List DefA) : PySem.W.Hook where
  α := He.AlD
  obs := fun s => obsMG as fx fn s.heap.get?
  val := fun _ => valA fn
  says := fun _ h => ∃ K : PySem.W.Frag, K.In h ∧ SaysM fx fn K
  of := fun _ _ e => ⟨_, frG_in, e⟩
  keeps := fun _ _ _ ⟨K, hK, c⟩ k => ⟨K, PySem.W.Frag.In.keeps hK k, c⟩
theorem obsMG_eq {as : (Addr → Option Obj) → List Addr} {fx : List Fx} {fn : List DefA} {g : Addr → Option Obj} {s : Shared} (h : ∀ a, g a = s.heap.get? a) : obsMG as fx fn g = (hookM as fx fn).obs s := by
  have e : g = s.heap.get? := funext h
  rw [e] <;> rfl
/-- parts of the run's equation put together -/
theorem map_two {α β γ : Type} {o : Option α} {f : α → β} {g : α → γ} {b : β} {c : γ} (h1 : o.map f = some b) (h2 : o.map g = some c) : o.map (fun x => (f x, g x)) = some (b, c) := by
  cases o with
  | none => cases h1
  | some x =>
    have e1 : f x = b := Option.some.inj h1
    have e2 : g x = c := Option.some.inj h2
    show some (f x, g x) = some (b, c)
    rw [e1, e2]
theorem map_three {α β γ δ : Type} {o : Option α} {f : α → β} {g : α → γ} {k : α → δ} {b : β} {c : γ} {d : δ} (h1 : o.map (fun x => (f x, g x)) = some (b, c)) (h2 : o.map k = some d) : o.map (fun x => (f x, g x, k x)) = some (b, c, d) := by
  cases o with
  | none => cases h1
  | some x =>
    have e1 : (f x, g x) = (b, c) := Option.some.inj h1
    have e2 : k x = d := Option.some.inj h2
    obtain ⟨e3, e4⟩ := Prod.mk.inj e1
    show some (f x, g x, k x) = some (b, c, d)
    rw [e2, e3, e4]
theorem map_all {α : Type} {o : Option α} {K : α → PySem.W.Frag} {l m : List Fx} (h1 : o.map (fun x => l.all fun f => f (K x)) = some true) (h2 : o.map (fun x => m.all fun f => f (K x)) = some true) : o.map (fun x => (l ++ m).all fun f => f (K x)) = some true := by
  cases o with
  | none => cases h1
  | some x =>
    have e1 : (l.all fun f => f (K x)) = true := Option.some.inj h1
    have e2 : (m.all fun f => f (K x)) = true := Option.some.inj h2
    show some ((l ++ m).all fun f => f (K x)) = some true
    rw [List.all_append, e1, e2] <;> rfl
theorem map_obs {α : Type} {o : Option α} {K : α → PySem.W.Frag} {fx : List Fx} {fn : List DefA} (h1 : o.map (fun x => fx.all fun f => f (K x)) = some true) (h2 : o.map (fun x => (fn.all fun d => d.ok (K x), fn.map fun d => fnA (K x) (d.at_ (K x)))) = some (valA fn)) : o.map (fun x => obsM fx fn (K x)) = some (valA fn) := by
  cases o with
  | none => cases h1
  | some x =>
    have e1 : (fx.all fun f => f (K x)) = true := Option.some.inj h1
    have e2 : (fn.all fun d => d.ok (K x), fn.map fun d => fnA (K x) (d.at_ (K x))) = valA fn := Option.some.inj h2
    show some (obsM fx fn (K x)) = some (valA fn)
    rw [← e2]
    unfold obsM
    rw [e1, Bool.true_and]
section
variable {fx : List Fx} {fn : List DefA} {K : PySem.W.Frag}
theorem SaysM.fact (c : SaysM fx fn K) (i : Nat) {f : Fx} (h : fx[i]? = some f := by rfl) : f K = true := by
  have c1 := (ba (show ((fx.all fun f => f K) && fn.all fun d => d.ok K) = true from congrArg (fun z : He.AlD => z.1) c)).1
  exact List.all_eq_true.mp c1 f (List.mem_of_getElem? h)
theorem SaysM.def_ (c : SaysM fx fn K) (i : Nat) {d : DefA} (h : fn[i]? = some d := by rfl) : ∃ fd, L2.FunD K d.name d.qual d.params d.body d.scope (d.dvs K) (d.kws K) (d.at_ K) fd := by
  have c2 := (ba (show ((fx.all fun f => f K) && fn.all fun d => d.ok K) = true from congrArg (fun z : He.AlD => z.1) c)).2
  have e : fn.map (fun d => fnA K (d.at_ K)) = fn.map DefA.val := congrArg (fun z : He.AlD => z.2) c
  have e2 : (fn.map fun d => fnA K (d.at_ K))[i]? = (fn.map DefA.val)[i]? := by rw [e]
  rw [List.getElem?_map, List.getElem?_map, h] at e2
  exact DefA.funD (Option.some.inj e2) (List.all_eq_true.mp c2 d (List.mem_of_getElem? h))
end
/-- what a walk leans on: the written part, the module's names -/
structure Tx (fx : List Fx) (fn : List DefA) (K : PySem.W.Frag) (mg : Str → Option Value) : Prop where
  c : SaysM fx fn K
  h : ∃ h : Heap, K.In h ∧ h.Ns mainGlobals mg
/-- the addresses -/
abbrev atG (x : Str) : PySem.W.Frag → Addr := fun K => ga K x
abbrev atM (C m : Str) : PySem.W.Frag → Addr := fun K => ma K (ga K C) m
abbrev atW (C : Str) (T : String) (m : Str) : PySem.W.Frag → Addr := fun K => wf K (ga K C) T m

/-! ### Bools and what they say -/
def fGlo (x : Str) : Fx := fun K => (Fa.glo x).ok K
def fFree (x : Str) : Fx := fun K => (Fa.free x).ok K
def fKeep (x : Str) : Fx := fun K => (Fa.keep x).ok K
def fInt (x : Str) (i : Int) : Fx := fun K => (Fa.int x i).ok K
def fStr (x z : Str) : Fx := fun K => (Fa.str x z).ok K
def fTup (x : Str) (vs : List Dv) : Fx := fun K => tupB K x vs
def fCls (x : Str) : Fx := fun K => (Fa.cls x).ok K
def fNoat (x f : Str) : Fx := fun K => (Fa.noat x f).ok K
def fMeth (x m : Str) : Fx := fun K => (Fa.meth x m).ok K
def fMkr (x : Str) : Fx := fun K => (Fa.mkr x).ok K
def fExm (x y : Str) (b : Bool) : Fx := fun K => (Fa.exm x y b).ok K
def fBlt (x : Str) (id : String) : Fx := fun K => eqO (PySem.W.nsIn K mainGlobals x) (some (some (.builtin id)))
/-- an own exception class -/
def oexB (K : PySem.W.Frag) (C : Addr) : Bool := (match K.lookup C with
  | some ⟨.type "type", _, .cls cd, sl⟩ => (match cd.mro, sl.toList with
    | .ref C' :: bm, [_, _, _, _, some (.builtin n), _] => decide (C' = C) && (decide (n = "ValueError.__new__") && (!cd.hasDel && (cd.hasDict && PySem.HandSPX.refsVE bm)))
    | _, _ => false)
  | _ => false) && (eqO (PySem.W.findIn K (.ref C) "__setattr__") (some (some (.builtin "object.__setattr__"))) && (decide (PySem.W.subIn K (.ref C) (.type "BaseException") = some true) && (decide (PySem.W.typeIn K (.ref C) = some (.type "type")) && PySem.W.keepIn K (.ref C))))
theorem oexB_ok {K : PySem.W.Frag} {C : Addr} (h : oexB K C = true) : OexC K C := by
  obtain ⟨h1, h⟩ := ba h
  obtain ⟨h2, h⟩ := ba h
  obtain ⟨h3, h⟩ := ba h
  obtain ⟨h4, h5⟩ := ba h
  refine ⟨?_, eqO_ok h2, of_decide_eq_true h3, of_decide_eq_true h4, h5⟩
  clear h2 h3 h4 h5
  split at h1
  · rename_i dd cd sl ho
    split at h1
    · rename_i C' bm k0 k1 k2 k3 n k5 hm hs
      obtain ⟨e1, h1⟩ := ba h1
      obtain ⟨e2, h1⟩ := ba h1
      obtain ⟨e3, h1⟩ := ba h1
      obtain ⟨e4, e5⟩ := ba h1
      have e1 := of_decide_eq_true e1
      have e2 := of_decide_eq_true e2
      have e6 : cd.hasDel = false := by simpa using e3
      clear e3 h1
      subst e1 e2
      obtain ⟨nm, bs, mro, ns, qn, hd, sn, sub, ab, col, del⟩ := cd
      dsimp only at hm e6 e4
      subst hm e6 e4
      have hsl : sl = #[k0, k1, k2, k3, some (.builtin "ValueError.__new__"), k5] := by
        obtain ⟨l⟩ := sl
        simp only at hs
        rw [hs]
      subst hsl
      exact ⟨nm, qn, ns, bs, bm, sn, sub, ab, col, dd, k0, k1, k2, k3, k5, ho, e5⟩
    · cases h1
  · cases h1
def fOex (x : Str) : Fx := fun K => oexB K (ga K x)
/-- its __init__ -/
def fIni (x : Str) : Fx := fun K => eqO (PySem.W.findIn K (.ref (ga K x)) "__init__") (some (some (.ref (ma K (ga K x) "__init__")))) && decide (PySem.W.typeIn K (.ref (ma K (ga K x) "__init__")) = some (.type "function"))
def fXf (x : Str) : Fx := fun K => xfB K (ga K x)
/-- attributes of the class are read as a class's -/
def fCRead (x : Str) : Fx := fun K => PySem.W.readsIn K (ga K x) (.type "type") && eqO (PySem.W.specialIn K (.ref (ga K x)) "__getattribute__") (some (some (.builtin "type.__getattribute__")))
def fCMet (x m : Str) : Fx := fun K => wrapB K (ga K x) "classmethod" "classmethod.__get__" m && PySem.W.fnIn K (wf K (ga K x) "classmethod" m)
/-- what isinstance asks of an exception's class -/
def fExcC (x : Str) : Fx := fun K => eqO (PySem.W.findIn K (.ref (ga K x)) "__getattribute__") (some (some (.builtin "BaseException.__getattribute__"))) && (eqO (PySem.W.findIn K (.ref (ga K x)) "__getattr__") (some none) &&
  (decide (PySem.W.subIn K (.ref (ga K x)) (.type "BaseException") = some true) && (PySem.W.hasDictIn K (ga K x) && (eqO (PySem.W.findIn K (.ref (ga K x)) "__class__") (some (some (.builtin "object.__class__"))) &&
  (eqO (PySem.W.specialIn K (.builtin "object.__class__") "__get__") (some (some (.builtin "getset_descriptor.__get__"))) && (decide (PySem.W.takesIn K (.builtin "object.__class__") = some true) && decide (PySem.W.mroIn K (ga K x) (.type "object") = some true)))))))
def fKit (x : Str) (c : PySem.W.Frag → Value) (b : Bool) : Fx := fun K => decide (PySem.W.kitOne K (.ref (ga K x)) (c K) = some b)
section
variable {fx : List Fx} {fn : List DefA} {K : PySem.W.Frag} {mg : Str → Option Value} {x m f : Str}
theorem x_glo (T : Tx fx fn K mg) (c : fGlo x K = true) : mg x = some (.ref (ga K x)) := by
  obtain ⟨h, X, G⟩ := T.h
  exact glo_ok X G c
theorem x_free (T : Tx fx fn K mg) (c : fFree x K = true) : mg x = none := by
  obtain ⟨h, X, G⟩ := T.h
  exact free_ok X G c
theorem x_blt {id : String} (T : Tx fx fn K mg) (c : fBlt x id K = true) : mg x = some (.builtin id) := by
  obtain ⟨h, X, G⟩ := T.h
  exact PySem.W.mg_of X G (eqO_ok c)
theorem x_keep (c : fKeep x K = true) : PySem.W.keepIn K (.ref (ga K x)) = true := c
theorem x_int {i : Int} (T : Tx fx fn K mg) (c : fInt x i K = true) : ∃ u, mg x = some u ∧ RelV (.int i) u := by
  obtain ⟨h, X, G⟩ := T.h
  obtain ⟨t, e⟩ := int_ok X G c
  exact ⟨_, e, ⟨t, rfl⟩⟩
theorem x_str {z : Str} (T : Tx fx fn K mg) (c : fStr x z K = true) : ∃ u, mg x = some u ∧ RelV (.str z) u := by
  obtain ⟨h, X, G⟩ := T.h
  obtain ⟨t, e⟩ := str_ok X G c
  exact ⟨_, e, ⟨t, rfl⟩⟩
theorem x_ref (T : Tx fx fn K mg) (c : fGlo x K = true) : ∃ u, mg x = some u ∧ RelV (.ref (ga K x)) u := ⟨_, x_glo T c, rfl⟩
theorem x_ini (c : fIni x K = true) : PySem.W.findIn K (.ref (ga K x)) "__init__" = some (some (.ref (ma K (ga K x) "__init__"))) ∧ PySem.W.typeIn K (.ref (ma K (ga K x) "__init__")) = some (.type "function") := by
  obtain ⟨h1, h2⟩ := ba c
  exact ⟨eqO_ok h1, of_decide_eq_true h2⟩
theorem x_cread (c : fCRead x K = true) : ClX.CRead K (ga K x) (.type "type") := by
  obtain ⟨h1, h2⟩ := ba c
  exact ⟨h1, eqO_ok h2⟩
theorem x_cmet (c : fCMet x m K = true) : ClX.CMet K (ga K x) (.type "type") m (ma K (ga K x) m) (wf K (ga K x) "classmethod" m) := by
  obtain ⟨h1, h2⟩ := ba c
  exact cmet_of h1 h2
theorem x_excC (c : fExcC x K = true) : ExcC K (ga K x) := by
  obtain ⟨h1, c⟩ := ba c
  obtain ⟨h2, c⟩ := ba c
  obtain ⟨h3, c⟩ := ba c
  obtain ⟨h4, c⟩ := ba c
  obtain ⟨h5, c⟩ := ba c
  obtain ⟨h6, c⟩ := ba c
  obtain ⟨h7, h8⟩ := ba c
  exact ⟨eqO_ok h1, eqO_ok h2, of_decide_eq_true h3, h4, eqO_ok h5, eqO_ok h6, of_decide_eq_true h7, of_decide_eq_true h8⟩
theorem x_kit {c : PySem.W.Frag → Value} {b : Bool} (h : fKit x c b K = true) : PySem.W.kitOne K (.ref (ga K x)) (c K) = some b := of_decide_eq_true h
end

/-! ### a def by its datum -/
section
variable {P : Program} {w : World} {K : PySem.W.Frag} {mg : Str → Option Value} {base : Heap}
/-- a def without defaults, called by positions -/
theorem fun_ok {x qual : Str} {st : Stmt} {f : Addr} {N ps : List Str} {k : Nat} {sp : Sp} (F : ∃ fd, FunD K x qual (defArgs st) (defBody st) (defScope st) [] [] f fd) (S : FnScope N ps (defScope st))
    (hb : ∀ (kV doc pm : Value) (an : Option Addr) (cdv ct : Value) (us : List Value), us.length = ps.length → bindArgs (PySem.W.fnOf x qual (defArgs st) (defBody st) (defScope st) .none kV doc pm an cdv ct) ⟨us, []⟩ = pure (ps.zip us))
    (len : ∀ vs H Q E, sp vs H Q E → vs.length = ps.length)
    (hbody : ∀ (cdv : Value) (A : Around) (outer : List Env) (s : Shared) (H : Hp) (vs : List V) (Q : VK) (E : XK), Room k (A.deeper (envOfC qual (defScope st) s.heap.objs.size f cdv)) → sp vs H Q E →
      ∃ t, PSs (cxOf (L2.CX P w) P w K mg base N qual (defScope st) f cdv A outer s H E) (defBody st) t ∧ t { nx := fun _ H' => Q .non H', rt := Q } (start N vs) H) : FnR P w K mg base (L2.CX P w) (k + 1) f sp := by
  obtain ⟨fd, F⟩ := F
  have b : Binds K fd ps [] := F.bindsN hb
  have G : FnOk P w K mg base (L2.CX P w) (k + 1) f fd ps sp := F.ok S len hbody
  intro A outer s H us vs Q E hr e0 r hs
  refine (G.raw b .nil) A outer s H us vs Q E hr e0 r ?_
  show sp (vs ++ []) H Q E
  rw [List.append_nil]
  exact hs
end
end Go
/-! ### int of texts up to 4300 signs -/
namespace PySem.W
open PySem PySem.Calls PySem.NumText PyProof.Rows
namespace KIL
/-- the written part says that no other limit of digits stands -/
def noDigB (K : Frag) : Bool := match nsIn K cStatics "sys.int_max_str_digits" with
  | some none => true
  | _ => false
theorem noDig_ok {K : Frag} (h : noDigB K = true) : nsIn K cStatics "sys.int_max_str_digits" = some none := by
  unfold noDigB at h
  split at h
  · assumption
  · cases h
theorem wp_textL {M : Model} {A : Around} {E : Value → Shared → Prop} {s : Shared} {K : Frag} {Q : Value → Shared → Prop} {v : Value} {text : List Nat} {n : Int} (X : K.In s.heap) (hK : nsIn K cStatics "sys.int_max_str_digits" = some none)
    (hs : ¬ (text.takeWhile (· != 0)).length ≤ 640) (hr : (int_private% "readNumeral") 4300 10 (text.takeWhile (· != 0)) = (int_private% "Numeral.value") n)
    (ha : ((text.takeWhile (· != 0)).length == text.length) = true) (h : Q (.int n s.toks) { s with toks := s.toks + 1 }) :
    wpAny M A ((int_private% "intFromText") v text 10) Q E s := by
  have e : wpAny M A (Builtin.intMaxStrDigits) (fun k s' => k = 4300 ∧ s' = s) E s := by
    unfold Builtin.intMaxStrDigits
    refine wpAny_bind ((looks_nsIn (M := M) X hK).here ?_)
    exact wpAny_pure ⟨rfl, rfl⟩
  obtain ⟨hp, g, d, tk, os⟩ := s
  have e2 : ∀ (Q' : Nat → Shared → Prop), Q' 4300 ⟨hp, g, d, tk, os⟩ → wpAny M A (Builtin.intMaxStrDigits) Q' E ⟨hp, g, d, tk, os⟩ := fun Q' q => wpAny_mono e (fun k s' z => by obtain ⟨rfl, rfl⟩ := z; exact q) fun _ _ z => z
  repeat (any_goals (first
    | assumption
    | (with_reducible refine wpAny_ite_false (decide_eq_false hs) ?_)
    | (with_reducible refine wpAny_ite_true (decide_eq_true ha) ?_)
    | (with_reducible refine e2 _ ?_)
    | wp_step))
  all_goals (try rw [hr])
  all_goals (try dsimp only)
  repeat (any_goals (first
    | assumption
    | (with_reducible refine wpAny_ite_true (decide_eq_true ha) ?_)
    | wp_step))
structure Hid (p : Prop) : Prop where
  out : p
theorem meets_textL {K : Frag} {x : PySem.Str} {u : Tok} {n : Int} (hK : nsIn K cStatics "sys.int_max_str_digits" = some none) (hl : ¬ (numSeenOf x).length ≤ 640) (hz : x.length ≤ sizeLine) (hn : PySem.intText? x = some n) :
    Meets (Builtin.«int.__new__» ⟨[.type "int", .str x u], []⟩) (fun _ R s => K.In s.heap ∧ R (.ok (.ret (.int n s.toks))) { s with toks := s.toks + 1 }) :=
  fun prog w A R s h => by
    obtain ⟨hp, g, d, tk, os⟩ := s
    obtain ⟨X, h⟩ := h
    have f1 := F.conv_sub_int
    have f2 := F.madeHere_int
    have f3 := KIN.str_int
    have f4 := KIN.str_idx
    have f5 := KIN.str_trunc
    have f6 : typeOf (.str x u) = pure (.type "str") := rfl
    have hr : (int_private% "readNumeral") 4300 10 (numSeenOf x) = (int_private% "Numeral.value") n ∧ ((numSeenOf x).length == (numTextOf x).length) = true := by
      rcases read4300 x hz with ⟨m, h1, h2, h3⟩ | ⟨h1, _⟩
      · rw [hn] at h1
        injection h1 with h1
        subst h1
        exact ⟨h3, h2⟩
      · rw [hn] at h1
        cases h1
    have hk := Hid.mk (And.intro (And.intro hl hr) (And.intro X hK))
    clear hr hl hn X hK hz
    repeat (any_goals (first
      | assumption
      | ((with_reducible show wpAny _ _ ((int_private% "intFromText") _ _ _) _ _ _); refine wp_textL hk.out.2.1 hk.out.2.2 hk.out.1.1 hk.out.1.2.1 hk.out.1.2.2 ?_)
      | wp_step))
    all_goals first | exact h | skip
theorem call_textL {prog : Program} {w : World} {A : Around} {E : Value → Shared → Prop} {s : Shared} {K : Frag} {Q : Value → Shared → Prop} {x : PySem.Str} {t : Tok} {n : Int} (X : K.In s.heap) (hK : nsIn K cStatics "sys.int_max_str_digits" = some none)
    (hn : PySem.intText? x = some n) (hs : (numSeenOf x).length = x.length) (hz : x.length ≤ sizeLine) (h : Q (.int n s.toks) { s with toks := s.toks + 1 }) : wpAny (model prog w) A (call (.type "int") [.str x t]) Q E s := by
  by_cases hl : x.length ≤ 640
  · exact KIN.call_text hn hl h
  · exact call_int_1 (meets_textL hK (by rw [hs]; exact hl) hz hn) ⟨X, rfl, h⟩
end KIL
end PySem.W

namespace Go
open PySem PySem.Spec PyProof.Rows L2 He He5
def fNoDig : Fx := fun K => PySem.W.KIL.noDigB K
/-- int of an int, of a truth value, of a text -/
def rInt : List V → Hp → VK → Prop := fun xs H Q => (∃ i, xs = [.int i] ∧ Q (.int i) H) ∨ (∃ b, xs = [.bl b] ∧ Q (.int (if b then 1 else 0)) H) ∨
  (∃ a n, xs = [.str a] ∧ PySem.intText? a = some n ∧ (numSeenOf a).length = a.length ∧ a.length ≤ sizeLine ∧ Q (.int n) H)
theorem c_int {X : Cx} (hK : PySem.W.nsIn X.K cStatics "sys.int_max_str_digits" = some none) : CallR X (.type "int") rInt := by
  intro pins s σ H xs us Q I rs h
  rcases h with ⟨i, e, q⟩ | ⟨b, e, q⟩ | ⟨a, n, e, h1, h2, h3, q⟩
  · exact call_int1 pins s σ H xs us Q I rs (.inl ⟨i, e, q⟩)
  · refine call_int1 pins s σ H xs us Q I rs (.inr ⟨b, e, ?_⟩)
    cases b <;> exact q
  · subst e
    cases rs with
    | cons r1 rs =>
      cases rs
      obtain ⟨t, rfl⟩ := r1
      exact PySem.W.KIL.call_textL I.kIn hK h1 h2 h3 ⟨.int n, H, I.tok _, ⟨_, rfl⟩, q⟩

/-! ### exceptions of own classes with an own __init__ -/
def tMkF (C : Addr) (sp : Sp) (ta : TA) : L2.St → Hp → XK → Prop := fun σ H Q => ta σ H fun vs H1 => vs.length ≤ 1000 ∧ ∀ a, H1 a = none → sp (.ref a :: vs) (upd H1 a (exo a C none))
  (fun v H2 => v = .non ∧ ∃ (d : Addr) (fs : List (Str × V)), H2 a = some (exo a C (some d)) ∧ H2 d = some (exd d fs) ∧ H1 d = none ∧ Q (.ref C) (some d) (upd (del H2 a) d (.xd fs))) (fun _ _ _ => False)
section
variable {X : Cx} {x : Str} {C fI : Addr} {k : Nat} {sp : Sp} {e : Expr} {es : List Expr} {ta : TA} {p pos : Pos}
theorem pmk_oexF (T : OexC X.K C) (iC : PySem.W.findIn X.K (.ref C) "__init__" = some (some (.ref fI))) (tI : PySem.W.typeIn X.K (.ref fI) = some (.type "function"))
    (F1 : FnR X.prog X.w X.K X.mg X.base (L2.CX X.prog X.w) k fI sp) (hr : Room (k + 1) X.A) (hg : Gl X x) (hm : X.mg x = some (.ref C)) (ha : PA X (e :: es) ta)
    (hdb : (x == ("__debug__" : Str)) = false := by decide) (he : starEach (e :: es) X.env = (false, eval e X.env) :: starEach es X.env := by rfl) (hpl : (backTo pos (starEach es X.env)).any (·.1) = false := by rfl) :
    PMk X (.Call (.Name x p) (e :: es) [] pos) (tMkF C sp ta) := by
  intro pins s σ H Q I h
  obtain ⟨nm, q, N, bs, bm, sn, sub, ab, col, dd, k0, k1, k2, k3, k5, hC, hbm⟩ := T.cls
  refine wpAny_Call_Name_kw (ld_glob I hg hm ?_ hdb)
  refine PySem.W.callWith_K (h₀ := X.base) I.ok.mod.kin T.kC (thn (ha.run pos pins s σ H _ I h) fun us s1 ⟨vs, H1, I1, r1, hz, q1⟩ => ⟨I1.kIn, ?_⟩) he hpl
  show wpAny _ _ (call (.ref C) us) _ _ _
  obtain ⟨hp, g, dr, tk, os⟩ := s1
  have hsz : hp.objs.size ≤ hp.objs.size + 1 := Nat.le_succ _
  have hn : H1 (hp.objs.size + 1) = none := I1.hok.fresh hsz
  have hq := q1 (hp.objs.size + 1) hn
  have kk : ∀ b o, hp.get? b = some o → ((hp.push (PySem.W.kdv_tup us)).push (PySem.HandSPX.excO C hp.objs.size)).get? b = some o := fun b o e => Heap.get?_push_of_some _ (Heap.get?_push_of_some _ e)
  have hget : ((hp.push (PySem.W.kdv_tup us)).push (PySem.HandSPX.excO C hp.objs.size)).get? (hp.objs.size + 1) = some (PySem.HandSPX.excO C hp.objs.size) := by heap_get
  have I2 : Inv X pins σ (upd H1 (hp.objs.size + 1) (exo (hp.objs.size + 1) C none)) ⟨(hp.push (PySem.W.kdv_tup us)).push (PySem.HandSPX.excO C hp.objs.size), g, dr, tk, os⟩ :=
    I1.laid (t' := tk) (a := hp.objs.size + 1) (o := exo (hp.objs.size + 1) C none) (h' := (hp.push (PySem.W.kdv_tup us)).push (PySem.HandSPX.excO C hp.objs.size)) kk hsz (exo_ok hget)
  have r2 : Vals (V.ref (hp.objs.size + 1) :: vs) (Value.ref (hp.objs.size + 1) :: us) := .cons rfl r1
  have hus : us.length ≤ sizeLine := by
    rw [← Paired.length r1, sizeLine_eq]
    omega
  refine wpAny_call (PySem.HandSPX.call_own F.excBase_ValueError (fun Y => PySem.HandSPX.refsVE_contains Y bm hbm) (I1.kIn _ _ hC) (PySem.W.looks_findIn I1.kIn iC) (fun self => PySem.W.bind_fn I1.kIn self tI) hus
    (codeAny_mono (F1 _ X.stack _ _ (Value.ref (hp.objs.size + 1) :: us) _ _ (fun _ _ _ => False) (hr.make C us []) (I2.env0.make C us []) r2 hq) fun r s' hq' => ?_))
  cases r with
  | error er =>
    obtain ⟨_, _, _, _, _, _, _, _, _, _, _, _, z⟩ := hq'
    exact z.elim
  | ok fl =>
    cases fl with
    | ret u =>
      obtain ⟨v, H2, os2, bare2, un2, hok2, rv, ev, d, fs, ea, ed, hd1, q2⟩ := hq'
      subst ev
      obtain ⟨h2, g2, d2, t2, os'⟩ := s'
      exact ⟨rv, mk_end (raises_own T.exC T.tyC) I1 hsz kk un2 hok2 os2 bare2 ea ed hd1 q2⟩
    | next => exact False.elim hq'
    | brk => exact False.elim hq'
    | cont => exact False.elim hq'
end
/-- what such an __init__ that keeps its one argument promises -/
def spInit1 (C : Addr) (f : Str) : Sp := fun vs H Q _ => ∃ (a : Addr) (v : V), vs = [.ref a, v] ∧ H a = some (exo a C none) ∧ ∀ dx, H dx = none → dx ≠ a → Q .non (upd (upd H dx (exd dx [(f, v)])) a (exo a C (some dx)))
theorem g_mk {C : Addr} {sp : Sp} {ta : TA} {σ : L2.St} {H : Hp} {Q : XK} (h : ta σ H fun vs H1 => vs.length ≤ 1000 ∧ ∀ a, H1 a = none → sp (.ref a :: vs) (upd H1 a (exo a C none))
  (fun v H2 => v = .non ∧ ∃ (d : Addr) (fs : List (Str × V)), H2 a = some (exo a C (some d)) ∧ H2 d = some (exd d fs) ∧ H1 d = none ∧ Q (.ref C) (some d) (upd (del H2 a) d (.xd fs))) (fun _ _ _ => False)) : tMkF C sp ta σ H Q := h
/-- raised: the exception's own dict d holds the field -/
theorem g_raised {C : Addr} {f : Str} {v : V} {H1 : Hp} {Q : XK} (q : ∀ d H', Same H1 H' → H1 d = none → H' d = some (.xd [(f, v)]) → Q (.ref C) (some d) H') : ([v] : List V).length ≤ 1000 ∧ ∀ a, H1 a = none → spInit1 C f [.ref a, v] (upd H1 a (exo a C none))
      (fun v H2 => v = .non ∧ ∃ (d : Addr) (fs : List (Str × V)), H2 a = some (exo a C (some d)) ∧ H2 d = some (exd d fs) ∧ H1 d = none ∧ Q (.ref C) (some d) (upd (del H2 a) d (.xd fs))) (fun _ _ _ => False) := by
  refine ⟨by show 1 ≤ 1000; decide, fun a ha => ⟨a, v, rfl, upd_same, fun dx hd ne => ⟨rfl, dx, [(f, v)], upd_same, ?_, ?_, ?_⟩⟩⟩
  · rw [upd_ne ne, upd_same]
  · rw [upd_ne ne] at hd
    exact hd
  · rw [upd_ne ne] at hd
    refine q dx _ (fun b o e => ?_) hd upd_same
    have nb : b ≠ dx := ne_of_none e hd
    have na : b ≠ a := ne_of_none e ha
    rw [upd_ne nb, del_ne na, upd_ne na, upd_ne nb, upd_ne na]
    exact e

/-! ### what an except suite asks of the exception -/
theorem handS_kitx_exc2 {K : PySem.W.Frag} {x D : Addr} {ox : Obj} (C : ExcC K D) : PySem.W.KitX K (.ref x) (.ref D) (fun h => ∃ od, PySem.W.InstAt h x ox D od) where
  ty := fun _ _ _ I => by
    obtain ⟨od, I⟩ := I
    exact I.type
  it := fun _ _ X _ => by
    obtain ⟨cdD, hcD, _⟩ := PySem.W.any_some C.hd
    unfold PySem.W.clsIn at hcD
    split at hcD
    · rename_i c' d' cd' sl' ho
      intro A' Q' E' s' k q
      unfold isType loadHead
      exact wpAny_bind (wpAny_loadPart (k _ _ (X _ _ ho)) (wpAny_pure q))
    · cases hcD
  ne := fun h tp dd its n sl X htp => by
    obtain ⟨cdD, hcD, _⟩ := PySem.W.any_some C.hd
    refine Bool.eq_false_iff.mpr fun q => ?_
    have e : D = tp := Value.ref.inj (beq_iff_eq.mp q)
    subst e
    unfold PySem.W.clsIn at hcD
    split at hcD
    · rename_i c' d' cd' sl' ho
      have z := (X _ _ ho).symm.trans htp
      cases z
    · cases hcD
  ca := fun X I k => by
    obtain ⟨od, I⟩ := I
    exact PySem.W.kx_classE X I C.hg C.hk C.hs (PySem.W.findObj_dataE (by obtain ⟨cd, hc, _⟩ := PySem.W.any_some C.hd; rw [hc]; rfl) C.ha C.hn C.ht) C.hm k
def rIsE (K : PySem.W.Frag) (a : Addr) (cls : Value) (d : Option Addr) : List V → Hp → VK → Prop := fun xs H Q => ∃ (D : Addr) (c : V) (cv : Value) (b : Bool), cls = .ref D ∧ ExcC K D ∧ (d = none ∨ ∃ dd fs, d = some dd ∧ H dd = some (.xd fs)) ∧ xs = [.ref a, c] ∧ (∀ u, RelV c u → u = cv) ∧ PySem.W.kitOne K (.ref D) cv = some b ∧ Q (.bl b) H
theorem callr_or {X : Cx} {f : Value} {r1 r2 : List V → Hp → VK → Prop} (h1 : CallR X f r1) (h2 : CallR X f r2) : CallR X f (fun xs H Q => r1 xs H Q ∨ r2 xs H Q) := by
  intro pins s σ H xs us Q I r h
  rcases h with h | h
  · exact h1 pins s σ H xs us Q I r h
  · exact h2 pins s σ H xs us Q I r h
theorem c_isE {X : Cx} {a : Addr} {oe : Obj} {cls : Value} {d : Option Addr} {pn : List (Addr × Obj)} (hz : Zc cls d oe) (hf : ∃ vs, oe.data = .fields vs) : CallR (X.suite a ((a, oe) :: pn)) (.builtin "isinstance") (rIsE X.K a cls d) := by
  intro pins s σ H xs us Q I r h
  obtain ⟨D, c, cv, b, ec, C, hd, rfl, hcv, e, q⟩ := h
  cases r with
  | cons rx rr =>
    cases rr with
    | cons rt rr =>
      cases rr
      cases rx
      have ecv := hcv _ rt
      subst ecv
      subst ec
      obtain ⟨hget, _⟩ := I.pin (a, oe) (List.mem_append.mpr (.inl List.mem_cons_self))
      obtain ⟨vs, hv⟩ := hf
      have J : ∃ od, PySem.W.InstAt s.heap a oe D od := by
        rcases hd with rfl | ⟨dd, fs, rfl, hx⟩
        · refine ⟨none, ?_⟩
          obtain ⟨oc, od, oda, osl⟩ := oe
          obtain ⟨h1, h2⟩ := hz
          dsimp only at h1 h2 hv
          subst h1 h2 hv
          exact ⟨hget, rfl, rfl, trivial⟩
        · have hx2 : ObjOk X.prog X.w H s.heap dd (.xd fs) := I.hok dd _ hx
          obtain ⟨mA, hns, hr⟩ := hx2
          obtain ⟨od, ho, hl⟩ := lookIn_ns hns
          exact ⟨some od, hget, hz.1, by unfold PySem.W.notCls; rw [hv] <;> rfl, by rw [hz.2]; exact ho⟩
      exact PySem.W.kia_one (handS_kitx_exc2 C) I.kIn J e (fun z => nomatch z) fun tk => ⟨.bl b, H, I.kept (t' := tk) fun _ _ z => z, rfl, q⟩
theorem c_isA {X : Cx} {a : Addr} {oe : Obj} {cls : Value} {d : Option Addr} {pn : List (Addr × Obj)} (hz : Zc cls d oe) (hf : ∃ vs, oe.data = .fields vs) : CallR (X.suite a ((a, oe) :: pn)) (.builtin "isinstance") (fun xs H Q => rIsE X.K a cls d xs H Q ∨ rIsi X.K xs H Q) := callr_or (c_isE hz hf) call_isi
def tXfA (K : PySem.W.Frag) (a : Addr) (cls : Value) (d : Option Addr) (f : Str) (te : TE) : TE := fun σ H Q => te σ H fun x H1 => x = .ref a ∧ ∃ (C dd : Addr) (fs : List (Str × V)) (v : V), cls = .ref C ∧ XfC K C ∧ PySem.W.findIn K (.ref C) f = some none ∧ d = some dd ∧ H1 dd = some (.xd fs) ∧ fs.lookup f = some v ∧ Q v H1
theorem pe_xfA {X : Cx} {a : Addr} {oe : Obj} {cls : Value} {d : Option Addr} {pn : List (Addr × Obj)} {e : Expr} {te : TE} {pos : Pos} {n : Str} (hz : Zc cls d oe) (hf : ∃ vs, oe.data = .fields vs) (he : PE (X.suite a ((a, oe) :: pn)) e te)
    (hb : attributeBase e n X.env (eval e X.env) = eval e X.env := by rfl) : PE (X.suite a ((a, oe) :: pn)) (.Attribute e n pos) (tXfA X.K a cls d n te) := by
  refine ⟨fun pins s σ H Q I h => ?_⟩
  refine attr_of hb (thn (he.run pins s σ H _ I h) fun u s1 hh => ?_)
  obtain ⟨x, H1, I1, rx, ex, C, dd, fs, v, ec, T, hno, ed, ea, l, q⟩ := hh
  subst ex
  obtain rfl : u = Value.ref a := rx
  subst ec
  subst ed
  obtain ⟨ha, _⟩ := I1.pin (a, oe) (List.mem_append_left _ List.mem_cons_self)
  obtain ⟨vs, hd⟩ := hf
  have hx : ObjOk X.prog X.w H1 s1.heap dd (.xd fs) := I1.hok dd _ ea
  obtain ⟨mA, hns, hr⟩ := hx
  obtain ⟨od, ho, hl⟩ := lookIn_ns hns
  obtain ⟨u, hu, ru⟩ := RelO.some_of (v := v) (o := mA n) (by rw [← l]; exact hr n)
  have J : PySem.W.InstAt s1.heap a oe C (some od) := ⟨ha, hz.1, by unfold PySem.W.notCls; rw [hd] <;> rfl, by rw [hz.2]; exact ho⟩
  exact HandSPX.exc_get I1.kIn J T.ga T.gg T.exC (PySem.W.findObj_own T.hdC hno rfl (by rw [hl, hu])) (handed_of ru) ⟨v, H1, I1.tok _, ru, q⟩
end Go
namespace Go
open PySem PySem.Spec PyProof.Rows L2 He He5
section
variable {K : PySem.W.Frag} {σ : L2.St} {H : Hp} {g : TG} {tb : TS} {n : L2.St → Hp → Prop} {r : V → Hp → Prop} {b ct : L2.St → Hp → Prop} {te : TE} {ta : TA} {a p : Addr} {xs : List V} {R : It → Hp → Prop} {Q : VK} {i j : Int} {x y v : V}
/-! ### what is walked -/
theorem g_iStr (h : te σ H fun v H1 => ∃ x, v = .str x ∧ R (Its x) H1) : iStr te σ H R := h
theorem g_exS {x : Str} {P : Str → Prop} (h : P x) : ∃ x', V.str x = .str x' ∧ P x' := ⟨x, rfl, h⟩
theorem g_iList (h : te σ H fun x H1 => ∃ a, x = .ref a ∧ (∃ xs, SqL K H1 a xs) ∧ R (Itl K a) H1) : iList K te σ H R := h
theorem g_exL {P : Addr → Prop} (hl : SqL K H p xs) (h : P p) : ∃ a, V.ref p = .ref a ∧ (∃ xs, SqL K H a xs) ∧ P a := ⟨p, rfl, ⟨xs, hl⟩, h⟩
theorem g_iTup (h : te σ H fun x H1 => ∃ a, x = .ref a ∧ (∃ xs, SqT K H1 a xs) ∧ R (Itt K a) H1) : iTup K te σ H R := h
theorem g_exT {P : Addr → Prop} (hl : SqT K H p xs) (h : P p) : ∃ a, V.ref p = .ref a ∧ (∃ xs, SqT K H a xs) ∧ P a := ⟨p, rfl, ⟨xs, hl⟩, h⟩
theorem g_iR1 (h : ta σ H fun vs H1 => ∃ j : Int, vs = [.int j] ∧ -(2 ^ 62) ≤ j ∧ j < 2 ^ 62 ∧ R (Itr 0 j.toNat) H1) : iRng1 ta σ H R := h
theorem g_exR1 {P : Int → Prop} (h1 : -(2 ^ 62) ≤ j) (h2 : j < 2 ^ 62) (h : P j) : ∃ j' : Int, [V.int j] = [.int j'] ∧ -(2 ^ 62) ≤ j' ∧ j' < 2 ^ 62 ∧ P j' := ⟨j, rfl, h1, h2, h⟩
theorem g_iR2 (h : ta σ H fun vs H1 => ∃ i j : Int, vs = [.int i, .int j] ∧ (-(2 ^ 62) ≤ i ∧ i < 2 ^ 62 ∧ -(2 ^ 62) ≤ j ∧ j < 2 ^ 62) ∧ R (Itr i (j - i).toNat) H1) : iRng2 ta σ H R := h
theorem g_exR2 {P : Int → Int → Prop} (h0 : -(2 ^ 62) ≤ i ∧ i < 2 ^ 62 ∧ -(2 ^ 62) ≤ j ∧ j < 2 ^ 62) (h : P i j) : ∃ i' j' : Int, [V.int i, V.int j] = [.int i', .int j'] ∧ (-(2 ^ 62) ≤ i' ∧ i' < 2 ^ 62 ∧ -(2 ^ 62) ≤ j' ∧ j' < 2 ^ 62) ∧ P i' j' := ⟨i, j, rfl, h0, h⟩

/-! ### loops by an invariant -/
def LoopOf (J : It) (g : TG) (tb : TS) (n : L2.St → Hp → Prop) (r : V → Hp → Prop) (σ : L2.St) (H : Hp) : Prop := ∃ W : Nat → Nat → L2.St → Hp → Prop, (∃ m, W 0 m σ H) ∧ ∀ i m σ H, W i m σ H →
  (J.stop i H ∧ n σ H) ∨ (J.go i H ∧ ∃ N : L2.St → Hp → Prop, (∀ σ' H', N σ' H' → ∃ m', m' < m ∧ W (i + 1) m' σ' H') ∧ ∀ x H', J.yld i H x H' → g x σ H' fun σ2 H2 => tb ⟨N, r, n, N⟩ σ2 H2)
theorem g_forA {wi : TI} (h : wi σ H fun J H1 => LoopOf J g tb n r σ H1) : tFor wi g tb ⟨n, r, b, ct⟩ σ H := h
theorem l_str {x : Str} (Pv : Nat → L2.St → Hp → Prop) (h0 : Pv 0 σ H) (hs : ∀ i c σ H, x.cps.toList[i]? = some c → Pv i σ H → g (.str ⟨#[c]⟩) σ H fun σ2 H2 => tb ⟨Pv (i + 1), r, n, Pv (i + 1)⟩ σ2 H2)
    (hd : ∀ σ H, Pv x.cps.toList.length σ H → n σ H) : LoopOf (Its x) g tb n r σ H := by
  refine ⟨fun i m σ H => m = x.cps.size - i ∧ i ≤ x.cps.size ∧ Pv i σ H, ⟨x.cps.size, by simp, Nat.zero_le _, h0⟩, ?_⟩
  rintro i m σ H ⟨rfl, hi, p⟩
  by_cases hlt : i < x.cps.size
  · refine .inr ⟨hlt, Pv (i + 1), fun σ' H' p' => ⟨x.cps.size - (i + 1), by omega, rfl, hlt, p'⟩, fun v H' y => ?_⟩
    obtain ⟨e, c, hc, ev⟩ := y
    subst e ev
    exact hs i c σ _ (by rw [Array.getElem?_toList]; exact hc) p
  · have e : i = x.cps.size := by omega
    subst e
    exact .inl ⟨Nat.le_refl _, hd σ H (by rw [Array.length_toList]; exact p)⟩
theorem l_list (Pv : Nat → L2.St → Hp → Prop) (h0 : Pv 0 σ H) (hl : ∀ i σ H, i ≤ xs.length → Pv i σ H → SqL K H a xs)
    (hs : ∀ i x σ H, xs[i]? = some x → Pv i σ H → g x σ H fun σ2 H2 => tb ⟨Pv (i + 1), r, n, Pv (i + 1)⟩ σ2 H2) (hd : ∀ σ H, Pv xs.length σ H → n σ H) : LoopOf (Itl K a) g tb n r σ H :=
  for_list (D := ⟨n, r, n, n⟩) Pv h0 hl hs hd
theorem l_tup (Pv : Nat → L2.St → Hp → Prop) (h0 : Pv 0 σ H) (hl : ∀ i σ H, i ≤ xs.length → Pv i σ H → SqT K H a xs)
    (hs : ∀ i x σ H, xs[i]? = some x → Pv i σ H → g x σ H fun σ2 H2 => tb ⟨Pv (i + 1), r, n, Pv (i + 1)⟩ σ2 H2) (hd : ∀ σ H, Pv xs.length σ H → n σ H) : LoopOf (Itt K a) g tb n r σ H :=
  for_tup (D := ⟨n, r, n, n⟩) Pv h0 hl hs hd
theorem l_range {lo : Int} {m : Nat} (Pv : Nat → L2.St → Hp → Prop) (h0 : Pv 0 σ H)
    (hs : ∀ (i : Nat) σ H, i < m → Pv i σ H → g (.int (lo + i)) σ H fun σ2 H2 => tb ⟨Pv (i + 1), r, n, Pv (i + 1)⟩ σ2 H2) (hd : ∀ σ H, Pv m σ H → n σ H) : LoopOf (Itr lo m) g tb n r σ H :=
  for_range (D := ⟨n, r, n, n⟩) Pv h0 hs hd
/-- a while by its invariant and a measure that the invariant names -/
theorem w_by {c : TT} (W : Nat → L2.St → Hp → Prop) (m0 : Nat) (h0 : W m0 σ H)
    (hs : ∀ m σ H, W m σ H → c σ H fun k H1 => if k = true then tb ⟨fun σ' H' => ∃ m', m' < m ∧ W m' σ' H', r, n, fun σ' H' => ∃ m', m' < m ∧ W m' σ' H'⟩ σ H1 else n σ H1)
    (mono : ∀ σ H (Q Q' : Bool → Hp → Prop), (∀ k H1, Q k H1 → Q' k H1) → c σ H Q → c σ H Q') : tWhile c tb ⟨n, r, b, ct⟩ σ H := by
  refine ⟨W, ⟨m0, h0⟩, fun m σ H w => ?_⟩
  refine mono σ H _ _ (fun k H1 q => ?_) (hs m σ H w)
  cases k with
  | true =>
    rw [if_pos rfl] at q ⊢
    exact ⟨_, fun σ' H' z => z, q⟩
  | false =>
    rw [if_neg Bool.false_ne_true] at q ⊢
    exact q

/-! ### comprehensions -/
def CompOf (J : It) (g : TG) (tt : TT) (te : TE) (vs : List Nat) (σ : L2.St) (H1 : Hp) (D : Addr) (Qd : Hp → Prop) : Prop := ∃ W : Nat → Nat → Hp → Prop, (∃ m, W 0 m (upd H1 D (.lst []))) ∧ ∀ i m H, W i m H →
  (J.stop i H ∧ Qd H) ∨ (J.go i H ∧ ∃ Nx : Hp → Prop, (∀ H', Nx H' → ∃ m', m' < m ∧ W (i + 1) m' H') ∧ ∀ x H', J.yld i H x H' → g x (wipe σ vs) H' fun σ2 H2 => wipe σ2 vs = wipe σ vs ∧ tt σ2 H2 fun b H3 =>
    if b = true then te σ2 H3 fun y H4 => ∃ acc, H4 D = some (.lst acc) ∧ acc.length < sizeLine ∧ Nx (upd H4 D (.lst (acc ++ [y]))) else Nx H3)
theorem g_lc {wi : TI} {tt : TT} {vs : List Nat} (h : wi σ H fun J H1 => ∀ D, H1 D = none → CompOf J g tt te vs σ H1 D (fun H => Q (.ref D) H)) : tLc wi g tt te vs σ H Q := h
theorem c_list {tt : TT} {vs : List Nat} {D : Addr} {Qd : Hp → Prop} (Pv : Nat → Hp → Prop) (h0 : Pv 0 (upd H D (.lst []))) (hl : ∀ i H, i ≤ xs.length → Pv i H → SqL K H a xs)
    (hs : ∀ i x H, xs[i]? = some x → Pv i H → g x (wipe σ vs) H fun σ2 H2 => wipe σ2 vs = wipe σ vs ∧ tt σ2 H2 fun b H3 =>
      if b = true then te σ2 H3 fun y H4 => ∃ acc, H4 D = some (.lst acc) ∧ acc.length < sizeLine ∧ Pv (i + 1) (upd H4 D (.lst (acc ++ [y]))) else Pv (i + 1) H3) (hd : ∀ H, Pv xs.length H → Qd H) : CompOf (Itl K a) g tt te vs σ H D Qd := lc_list Pv h0 hl hs hd
theorem c_tup {tt : TT} {vs : List Nat} {D : Addr} {Qd : Hp → Prop} (Pv : Nat → Hp → Prop) (h0 : Pv 0 (upd H D (.lst []))) (hl : ∀ i H, i ≤ xs.length → Pv i H → SqT K H a xs)
    (hs : ∀ i x H, xs[i]? = some x → Pv i H → g x (wipe σ vs) H fun σ2 H2 => wipe σ2 vs = wipe σ vs ∧ tt σ2 H2 fun b H3 =>
      if b = true then te σ2 H3 fun y H4 => ∃ acc, H4 D = some (.lst acc) ∧ acc.length < sizeLine ∧ Pv (i + 1) (upd H4 D (.lst (acc ++ [y]))) else Pv (i + 1) H3) (hd : ∀ H, Pv xs.length H → Qd H) : CompOf (Itt K a) g tt te vs σ H D Qd := lc_tup Pv h0 hl hs hd
theorem c_range {tt : TT} {vs : List Nat} {D : Addr} {Qd : Hp → Prop} {lo : Int} {m : Nat} (Pv : Nat → Hp → Prop) (h0 : Pv 0 (upd H D (.lst [])))
    (hs : ∀ (i : Nat) H, i < m → Pv i H → g (.int (lo + i)) (wipe σ vs) H fun σ2 H2 => wipe σ2 vs = wipe σ vs ∧ tt σ2 H2 fun b H3 =>
      if b = true then te σ2 H3 fun y H4 => ∃ acc, H4 D = some (.lst acc) ∧ acc.length < sizeLine ∧ Pv (i + 1) (upd H4 D (.lst (acc ++ [y]))) else Pv (i + 1) H3) (hd : ∀ H, Pv m H → Qd H) : CompOf (Itr lo m) g tt te vs σ H D Qd := lc_range Pv h0 hs hd
theorem c_str {tt : TT} {vs : List Nat} {D : Addr} {Qd : Hp → Prop} {x : Str} (Pv : Nat → Hp → Prop) (h0 : Pv 0 (upd H D (.lst [])))
    (hs : ∀ i c H, x.cps.toList[i]? = some c → Pv i H → g (.str ⟨#[c]⟩) (wipe σ vs) H fun σ2 H2 => wipe σ2 vs = wipe σ vs ∧ tt σ2 H2 fun b H3 =>
      if b = true then te σ2 H3 fun y H4 => ∃ acc, H4 D = some (.lst acc) ∧ acc.length < sizeLine ∧ Pv (i + 1) (upd H4 D (.lst (acc ++ [y]))) else Pv (i + 1) H3) (hd : ∀ H, Pv x.cps.toList.length H → Qd H) : CompOf (Its x) g tt te vs σ H D Qd := by
  refine ⟨fun i m H => m = x.cps.size - i ∧ i ≤ x.cps.size ∧ Pv i H, ⟨x.cps.size, by simp, Nat.zero_le _, h0⟩, ?_⟩
  rintro i m H ⟨rfl, hi, p⟩
  by_cases hlt : i < x.cps.size
  · refine .inr ⟨hlt, Pv (i + 1), fun H' p' => ⟨x.cps.size - (i + 1), by omega, rfl, hlt, p'⟩, fun v H' y => ?_⟩
    obtain ⟨e, c, hc, ev⟩ := y
    subst e ev
    exact hs i c _ (by rw [Array.getElem?_toList]; exact hc) p
  · have e : i = x.cps.size := by omega
    subst e
    exact .inl ⟨Nat.le_refl _, hd H (by rw [Array.length_toList]; exact p)⟩
theorem g_yes {Q : Bool → Hp → Prop} (h : Q true H) : tYes σ H Q := h
/-! ### answers of tests -/
theorem g_ite {c : Prop} [Decidable c] {A B : Prop} (h1 : c → A) (h2 : ¬ c → B) : if decide c = true then A else B := by
  by_cases h : c
  · rw [if_pos (decide_eq_true h)]; exact h1 h
  · rw [if_neg (by rw [decide_eq_false h]; exact Bool.false_ne_true)]; exact h2 h
theorem g_iteN {c : Prop} [Decidable c] {A B : Prop} (h1 : ¬ c → A) (h2 : c → B) : if (!decide c) = true then A else B := by
  by_cases h : c
  · rw [decide_eq_true h]; exact h2 h
  · rw [decide_eq_false h]; exact h1 h
theorem g_iteB {k : Bool} {A B : Prop} (h1 : k = true → A) (h2 : k = false → B) : if k = true then A else B := by
  cases k with
  | true => exact h1 rfl
  | false => exact h2 rfl
theorem g_iteP {c : Prop} [Decidable c] {A B : Prop} (hc : c) (h : A) : if decide c = true then A else B := by
  rw [if_pos (decide_eq_true hc)]; exact h
theorem g_iteM {c : Prop} [Decidable c] {A B : Prop} (hc : ¬ c) (h : B) : if decide c = true then A else B := by
  rw [if_neg (by rw [decide_eq_false hc]; exact Bool.false_ne_true)]; exact h
theorem g_iteNP {c : Prop} [Decidable c] {A B : Prop} (hc : c) (h : B) : if (!decide c) = true then A else B := by
  rw [decide_eq_true hc]; exact h
theorem g_iteNM {c : Prop} [Decidable c] {A B : Prop} (hc : ¬ c) (h : A) : if (!decide c) = true then A else B := by
  rw [decide_eq_false hc]; exact h
theorem g_iteNT {A B : Prop} (h : B) : if (!true) = true then A else B := h
theorem g_iteNF {A B : Prop} (h : A) : if (!false) = true then A else B := h
theorem g_iteNB {k : Bool} {A B : Prop} (h1 : k = true → B) (h2 : k = false → A) : if (!k) = true then A else B := by
  cases k with
  | true => exact h1 rfl
  | false => exact h2 rfl
theorem take_all {α : Type} {p : α → Bool} {l : List α} {i : Nat} {c : α} (h : l[i]? = some c) (ha : (l.take i).all p = true) (hc : p c = true) : (l.take (i + 1)).all p = true := by
  rw [List.take_succ_eq_append_getElem (List.getElem?_eq_some_iff.mp h).1, List.all_append, ha, (List.getElem?_eq_some_iff.mp h).2]
  simp [hc]
theorem not_all {α : Type} {p : α → Bool} {l : List α} {i : Nat} {c : α} (h : l[i]? = some c) (hc : p c = false) : l.all p = false := by
  cases e : l.all p with
  | false => rfl
  | true =>
    have z := List.all_eq_true.mp e c (List.mem_of_getElem? h)
    rw [hc] at z
    cases z
theorem g_iteT {A B : Prop} (h : A) : if true = true then A else B := iteT h
theorem g_iteF {A B : Prop} (h : B) : if false = true then A else B := iteF h
/-! ### built-ins by their values -/
def rLenA (K : PySem.W.Frag) : List V → Hp → VK → Prop := fun xs H Q => ∃ x n, xs = [x] ∧ LenV K x H n ∧ Q (V.int (n : Int)) H
def rAbsA : List V → Hp → VK → Prop := fun xs H Q => ∃ i, xs = [V.int i] ∧ Q (V.int (if i < 0 then -i else i)) H
def rStrI : List V → Hp → VK → Prop := fun xs H Q => ∃ i, xs = [V.int i] ∧ i.natAbs.log2 < 1920 ∧ Q (V.str (Str.ofString (toString i))) H
def rTupA (K : PySem.W.Frag) : List V → Hp → VK → Prop := fun xs H Q => ∃ p ys, xs = [V.ref p] ∧ ((SqL K H p ys ∧ ∀ (l : Addr), H l = none → Q (V.ref l) (upd H l (HO.tup ys))) ∨ SqT K H p ys ∧ Q (V.ref p) H)
def rLstA (K : PySem.W.Frag) : List V → Hp → VK → Prop := fun xs H Q => ∃ p ys, xs = [V.ref p] ∧ (SqL K H p ys ∨ SqT K H p ys) ∧ ∀ (l : Addr), H l = none → Q (V.ref l) (upd H l (HO.lst ys))
def rMax2 : List V → Hp → VK → Prop := fun xs H Q => ∃ i j, xs = [V.int i, V.int j] ∧ Q (V.int (if j > i then j else i)) H
def rMin2 : List V → Hp → VK → Prop := fun xs H Q => ∃ i j, xs = [V.int i, V.int j] ∧ Q (V.int (if j < i then j else i)) H
def rStw : V → List V → Hp → VK → Prop := fun x xs H Q => ∃ a b, x = V.str a ∧ xs = [V.str b] ∧ Q (V.bl (Txt.startswith a b)) H
def rJoinA (K : PySem.W.Frag) : V → List V → Hp → VK → Prop := fun x xs H Q => ∃ a p ys, x = V.str a ∧ xs = [V.ref p] ∧ (SqL K H p (ys.map V.str) ∨ SqT K H p (ys.map V.str)) ∧ (ys.map (fun x => x.length)).sum + ys.length * a.length ≤ 16777216 ∧ Q (V.str (Txt.join a ys)) H
def rSplitA : V → List V → Hp → VK → Prop := fun x xs H Q => ∃ a b, x = V.str a ∧ xs = [V.str b] ∧ (b.length == 0) = false ∧ a.length + 2 ≤ sizeLine ∧ rNewStrs (Txt.split a b) H Q
def rPartA : V → List V → Hp → VK → Prop := fun x xs H Q => ∃ a b, x = V.str a ∧ xs = [V.str b] ∧ (b.length == 0) = false ∧ a.length ≤ sizeLine ∧ ∀ (p : Addr), H p = none → Q (V.ref p) (upd H p (HO.tup [V.str (Txt.partition a b).fst, V.str (Txt.partition a b).snd.fst, V.str (Txt.partition a b).snd.snd]))
section
variable {X : Cx}
theorem b_len : CallR X (.builtin "len") (rLenA X.K) := call_len
theorem b_abs : CallR X (.builtin "abs") rAbsA := call_abs
theorem b_str : CallR X (.type "str") rStrI := call_str_int
theorem b_tuple : CallR X (.type "tuple") (rTupA X.K) := call_tuple_of
theorem b_list : CallR X (.type "list") (rLstA X.K) := call_list_of
theorem b_max2 (h : X.calm = true) : CallR X (.builtin "max") rMax2 := call_max2 h
theorem b_min2 (h : X.calm = true) : CallR X (.builtin "min") rMin2 := call_min2 h
theorem m_stw : MtR X "str.startswith" rStw := mt_startswith
theorem m_join : MtR X "str.join" (rJoinA X.K) := mt_join
theorem m_split : MtR X "str.split" rSplitA := mt_split
theorem m_part : MtR X "str.partition" rPartA := mt_partition
end
theorem g_lenS {s : Str} (hl : s.length ≤ sizeLine) (h : Q (.int (s.length : Int)) H) : rLenA K [.str s] H Q := ⟨_, s.length, rfl, ⟨hl, rfl⟩, h⟩
theorem g_lenL (hl : SqL K H p xs) (h : Q (.int (xs.length : Int)) H) : rLenA K [.ref p] H Q := ⟨_, xs.length, rfl, .inl ⟨_, hl, rfl⟩, h⟩
theorem g_lenT (hl : SqT K H p xs) (h : Q (.int (xs.length : Int)) H) : rLenA K [.ref p] H Q := ⟨_, xs.length, rfl, .inr ⟨_, hl, rfl⟩, h⟩
theorem g_abs (h : Q (.int (if i < 0 then -i else i)) H) : rAbsA [.int i] H Q := ⟨i, rfl, h⟩
theorem g_strI (hl : i.natAbs.log2 < 1920) (h : Q (.str (Str.ofString (toString i))) H) : rStrI [.int i] H Q := ⟨i, rfl, hl, h⟩
theorem g_tupL (hl : SqL K H p xs) (h : ∀ l, H l = none → Q (.ref l) (upd H l (.tup xs))) : rTupA K [.ref p] H Q := ⟨p, xs, rfl, .inl ⟨hl, h⟩⟩
theorem g_tupT (hl : SqT K H p xs) (h : Q (.ref p) H) : rTupA K [.ref p] H Q := ⟨p, xs, rfl, .inr ⟨hl, h⟩⟩
theorem g_lstL (hl : SqL K H p xs) (h : ∀ l, H l = none → Q (.ref l) (upd H l (.lst xs))) : rLstA K [.ref p] H Q := ⟨p, xs, rfl, .inl hl, h⟩
theorem g_lstT (hl : SqT K H p xs) (h : ∀ l, H l = none → Q (.ref l) (upd H l (.lst xs))) : rLstA K [.ref p] H Q := ⟨p, xs, rfl, .inr hl, h⟩
theorem g_max2 (h : Q (.int (if j > i then j else i)) H) : rMax2 [.int i, .int j] H Q := ⟨i, j, rfl, h⟩
theorem g_min2 (h : Q (.int (if j < i then j else i)) H) : rMin2 [.int i, .int j] H Q := ⟨i, j, rfl, h⟩
theorem g_stw {s1 s2 : Str} (h : Q (.bl (Txt.startswith s1 s2)) H) : rStw (.str s1) [.str s2] H Q := ⟨s1, s2, rfl, rfl, h⟩
theorem g_joinL {s : Str} {ys : List Str} (hl : SqL K H p (ys.map V.str)) (hz : (ys.map (fun x => x.length)).sum + ys.length * s.length ≤ 16777216) (h : Q (.str (Txt.join s ys)) H) : rJoinA K (.str s) [.ref p] H Q := ⟨s, p, ys, rfl, rfl, .inl hl, hz, h⟩
theorem g_split {s1 s2 : Str} (h0 : (s2.length == 0) = false) (hz : s1.length + 2 ≤ sizeLine) (h : ∀ l, H l = none → Q (.ref l) (upd H l (.lst ((Txt.split s1 s2).map V.str)))) : rSplitA (.str s1) [.str s2] H Q := ⟨s1, s2, rfl, rfl, h0, hz, h⟩
theorem g_part3 {s1 s2 : Str} (h0 : (s2.length == 0) = false) (hz : s1.length ≤ sizeLine) (h : ∀ l, H l = none → Q (.ref l) (upd H l (.tup [.str (Txt.partition s1 s2).1, .str (Txt.partition s1 s2).2.1, .str (Txt.partition s1 s2).2.2]))) : rPartA (.str s1) [.str s2] H Q := ⟨s1, s2, rfl, rfl, h0, hz, h⟩
theorem g_intI (h : Q (.int i) H) : rInt [.int i] H Q := .inl ⟨i, rfl, h⟩
theorem g_intB {k : Bool} (h : Q (.int (if k then 1 else 0)) H) : rInt [.bl k] H Q := .inr (.inl ⟨k, rfl, h⟩)
theorem g_intS {s : Str} {m : Int} (h1 : PySem.intText? s = some m) (h2 : (numSeenOf s).length = s.length) (h3 : s.length ≤ sizeLine) (h : Q (.int m) H) : rInt [.str s] H Q := .inr (.inr ⟨s, m, rfl, h1, h2, h3, h⟩)
theorem g_gcd (h : Q (.int ((Nat.gcd i.natAbs j.natAbs : Nat) : Int)) H) : rGcd [.int i, .int j] H Q := ⟨i, j, rfl, h⟩
theorem g_append (hl : H p = some (.lst xs)) (hz : xs.length < sizeLine) (h : Q .non (upd H p (.lst (xs ++ [y])))) : rAppend (.ref p) [y] H Q := ⟨p, xs, y, rfl, rfl, hl, hz, h⟩
theorem g_tyL {P : Prop} (hl : SqL K H p xs) (h : P) : tyV K "list" (.ref p) H ∧ P := ⟨.inl ⟨rfl, _, hl⟩, h⟩
theorem g_bm {T : String} {r : V → List V → Hp → VK → Prop} {to : TE} (h : to σ H fun x H1 => tyV K T x H1 ∧ ta σ H1 fun xs H2 => r x xs H2 Q) : tBM K T r to ta σ H Q := h
theorem g_bm0 {T : String} {r : V → List V → Hp → VK → Prop} {to : TE} (h : to σ H fun x H1 => tyV K T x H1 ∧ r x [] H1 Q) : tBM0 K T r to σ H Q := h
theorem g_makeLF {i : Nat} {C : Addr} {sp : Sp} {W : WX} (hs : σ[i]? = some (some (.ref C))) (h : tMakeF C sp W ta σ H Q) : tMakeLF i C sp W ta σ H Q := ⟨hs, h⟩
end
theorem pe_globE {X : Cx} {x : Str} {v : V} {pos : Pos} (hg : Gl X x) (h : ∃ u, X.mg x = some u ∧ RelV v u) (hd : (x == ("__debug__" : Str)) = false := by decide) : PE X (.Name x pos) (tC v) := by
  obtain ⟨u, h1, h2⟩ := h
  exact pe_glob hg h1 h2 hd
theorem g_start {t : TS} {D : Ends} {σ σ' : L2.St} {H : Hp} (e : σ' = σ) (h : t D σ H) : t D σ' H := by rw [e]; exact h
section
variable {K : PySem.W.Frag} {σ : L2.St} {H : Hp} {n : L2.St → Hp → Prop} {r : V → Hp → Prop} {b ct : L2.St → Hp → Prop} {ta tv : TE} {f : Str} {p C dx : Addr} {fs : List (Str × V)} {v y : V} {Q : VK}
theorem g_seqK {t u : TS} (I : L2.St → Hp → Prop) (h2 : ∀ σ H, I σ H → u ⟨n, r, b, ct⟩ σ H) (h1 : ∀ N : L2.St → Hp → Prop, (∀ σ H, I σ H → N σ H) → t ⟨N, r, b, ct⟩ σ H) : tSeq t u ⟨n, r, b, ct⟩ σ H := h1 _ h2
theorem g_sfld (h : tv σ H fun y H1 => ta σ H1 fun x H2 => ∃ a C dx fs, x = .ref a ∧ H2 a = some (.ins C dx fs) ∧ Cls K C ∧ NoAttr K C f ∧ fs.length < 1000 ∧ n σ (upd H2 a (.ins C dx (putF f y fs)))) : sFld K ta tv f ⟨n, r, b, ct⟩ σ H := h
theorem g_put {P : Addr → Addr → Addr → List (Str × V) → Prop} (h1 : H p = some (.ins C dx fs)) (h2 : Cls K C) (h3 : NoAttr K C f) (h4 : fs.length < 1000) (h : P p C dx fs) : ∃ a C dx fs, V.ref p = .ref a ∧ H a = some (.ins C dx fs) ∧ Cls K C ∧ NoAttr K C f ∧ fs.length < 1000 ∧ P a C dx fs := ⟨p, C, dx, fs, rfl, h1, h2, h3, h4, h⟩
theorem g_get {P : V → Prop} (h1 : H p = some (.ins C dx fs)) (h2 : Cls K C) (h3 : NoAttr K C f) (h4 : fs.lookup f = some v) (h : P v) : ∃ a C dx fs v, V.ref p = .ref a ∧ H a = some (.ins C dx fs) ∧ Cls K C ∧ NoAttr K C f ∧ fs.lookup f = some v ∧ P v := ⟨p, C, dx, fs, v, rfl, h1, h2, h3, h4, h⟩
end
/-- a def with defaults: n values are written, the defaults behind the first j fill up -/
theorem fun_okD {P : Program} {w : World} {K : PySem.W.Frag} {mg : Str → Option Value} {base : Heap} {x qual : Str} {st : Stmt} {f : Addr} {N ps : List Str} {k : Nat} {sp : Sp} {dvs : List V} (F : ∃ fd, FunD K x qual (defArgs st) (defBody st) (defScope st) dvs [] f fd) (S : FnScope N ps (defScope st))
    (n j : Nat) (hd : dvs ≠ []) (hn : n + (dvs.length - j) = ps.length)
    (hb : ∀ (T : Addr) (kV doc pm : Value) (an : Option Addr) (cdv ct : Value) (us its : List Value), us.length = n → its.length = dvs.length →
      ∃ k, bindArgs (PySem.W.fnOf x qual (defArgs st) (defBody st) (defScope st) (.ref T) kV doc pm an cdv ct) ⟨us, []⟩ = seqItems? (.ref T) >>= k ∧ k (some its.toArray) = pure (ps.zip (us ++ its.drop j)))
    (len : ∀ vs H Q E, sp vs H Q E → vs.length = ps.length)
    (hbody : ∀ (cdv : Value) (A : Around) (outer : List Env) (s : Shared) (H : Hp) (vs : List V) (Q : VK) (E : XK), Room k (A.deeper (envOfC qual (defScope st) s.heap.objs.size f cdv)) → sp vs H Q E →
      ∃ t, PSs (cxOf (L2.CX P w) P w K mg base N qual (defScope st) f cdv A outer s H E) (defBody st) t ∧ t { nx := fun _ H' => Q .non H', rt := Q } (start N vs) H) : FnR P w K mg base (L2.CX P w) (k + 1) f (fun vs H Q E => sp (vs ++ dvs.drop j) H Q E) := by
  obtain ⟨fd, F⟩ := F
  obtain ⟨ds, hv, b⟩ := F.binds1 n j hd hn hb
  have G : FnOk P w K mg base (L2.CX P w) (k + 1) f fd ps sp := F.ok S len hbody
  exact G.raw b hv
end Go
namespace My
open PySem PySem.Spec PyProof.Rows L2 He He5 Go
def top (i : Nat) : Stmt := PySem.Challenge.pw_fewcarry_k86_question_forms.main.body.getD i (.Pass ⟨0, 0, 0, 0⟩)
abbrev s_OutOfBounds___init__ : Stmt := inClass (top 5) 0
abbrev s_BadNumber___init__ : Stmt := inClass (top 6) 0
abbrev s_BadPlace___init__ : Stmt := inClass (top 7) 0
abbrev s_BadDeed___init__ : Stmt := inClass (top 8) 0
abbrev s_BadQuestion___init__ : Stmt := inClass (top 9) 0
abbrev s_is_label : Stmt := top 15
abbrev s_whole_of : Stmt := top 16
abbrev s_Ratio___init__ : Stmt := inClass (top 20) 0
abbrev s_Ratio_read : Stmt := inClass (top 20) 1
abbrev s_Ratio_text : Stmt := inClass (top 20) 2
abbrev s_Ratio___eq__ : Stmt := inClass (top 20) 3
abbrev s_Ratio___add__ : Stmt := inClass (top 20) 4
abbrev s_Ratio___sub__ : Stmt := inClass (top 20) 5
abbrev s_Ratio___mul__ : Stmt := inClass (top 20) 6
abbrev s_Ratio___neg__ : Stmt := inClass (top 20) 7
abbrev s_Ratio___abs__ : Stmt := inClass (top 20) 8
abbrev s_Ratio___pow__ : Stmt := inClass (top 20) 9
abbrev s_Ratio_raised : Stmt := inClass (top 20) 10
abbrev s_Ratio_divided : Stmt := inClass (top 20) 11
abbrev s_Ratio_compare : Stmt := inClass (top 20) 12
abbrev s_Ratio_sign : Stmt := inClass (top 20) 13
abbrev s_Ratio_rounded_down : Stmt := inClass (top 20) 14
abbrev s_Ratio_rounded_up : Stmt := inClass (top 20) 15
abbrev s_words_of : Stmt := top 25
abbrev s_is_node : Stmt := top 26
abbrev s_is_ratio_text : Stmt := top 27
abbrev s_is_measure : Stmt := top 28
abbrev s_Number___init__ : Stmt := inClass (top 30) 0
abbrev s_Number_by_few : Stmt := inClass (top 30) 1
abbrev s_Number_exactly : Stmt := inClass (top 30) 2
abbrev s_Measure___init__ : Stmt := inClass (top 31) 0
abbrev s_Measure_by_few : Stmt := inClass (top 31) 1
abbrev s_Measure_exactly : Stmt := inClass (top 31) 2
abbrev s_Measure__measured : Stmt := inClass (top 31) 3
abbrev s_Sum___init__ : Stmt := inClass (top 32) 0
abbrev s_Sum_by_few : Stmt := inClass (top 32) 1
abbrev s_Sum_exactly : Stmt := inClass (top 32) 2
abbrev s_Difference___init__ : Stmt := inClass (top 33) 0
abbrev s_Difference_by_few : Stmt := inClass (top 33) 1
abbrev s_Difference_exactly : Stmt := inClass (top 33) 2
abbrev s_Product___init__ : Stmt := inClass (top 34) 0
abbrev s_Product_by_few : Stmt := inClass (top 34) 1
abbrev s_Product_exactly : Stmt := inClass (top 34) 2
abbrev s_Least___init__ : Stmt := inClass (top 35) 0
abbrev s_Least_by_few : Stmt := inClass (top 35) 1
abbrev s_Least_exactly : Stmt := inClass (top 35) 2
abbrev s_Greatest___init__ : Stmt := inClass (top 36) 0
abbrev s_Greatest_by_few : Stmt := inClass (top 36) 1
abbrev s_Greatest_exactly : Stmt := inClass (top 36) 2
abbrev s_Comparison___init__ : Stmt := inClass (top 37) 0
abbrev s_Comparison_by_few : Stmt := inClass (top 37) 1
abbrev s_Comparison_exactly : Stmt := inClass (top 37) 2
abbrev s__word : Stmt := top 41
abbrev s__after : Stmt := top 42
abbrev s__after_open : Stmt := top 43
abbrev s__read_label : Stmt := top 44
abbrev s__read_node : Stmt := top 45
abbrev s__read_number : Stmt := top 46
abbrev s__read_numbers : Stmt := top 47
abbrev s__read_nodes : Stmt := top 48
abbrev s__read_two_nodes : Stmt := top 49
abbrev s__read_things : Stmt := top 50
abbrev s__read_measure : Stmt := top 51
abbrev s__read_choice : Stmt := top 52
abbrev s__read_part : Stmt := top 53
abbrev s__read_term : Stmt := top 54
abbrev s__read_value : Stmt := top 55
abbrev s_read_words : Stmt := top 56
abbrev s_Question___init__ : Stmt := inClass (top 58) 0
abbrev s__law_pot : Stmt := top 60
abbrev s__law_digit : Stmt := top 61
abbrev s__law_common : Stmt := top 62
abbrev s__law_name : Stmt := top 63
abbrev s__law_number : Stmt := top 64
abbrev s__law_fraction : Stmt := top 65
abbrev s__law_part : Stmt := top 66
abbrev s__law_opened : Stmt := top 67
abbrev s__law_closed : Stmt := top 68
abbrev s__law_question : Stmt := top 69
abbrev s__law_is_digits : Stmt := top 70
abbrev s__law_is_whole : Stmt := top 71
abbrev s__law_is_fraction : Stmt := top 72
abbrev s__law_is_label : Stmt := top 73
abbrev s__law_behind : Stmt := top 74
abbrev s__law_stands : Stmt := top 75
abbrev s__law_wrong_at : Stmt := top 76
abbrev s__law_refused : Stmt := top 77
abbrev s__law_let : Stmt := top 78
abbrev s__law_asked : Stmt := top 79
abbrev s__law_spare : Stmt := top 80
abbrev s__law_changed : Stmt := top 81
abbrev s__law_chain : Stmt := top 82
abbrev s__law_deep : Stmt := top 83
abbrev s__law_long : Stmt := top 84
abbrev s__law_many_digits : Stmt := top 85
abbrev s_law : Stmt := top 86
theorem sc_BadNumber___init__ : FnScope ["self", "given"] ["self", "given"] (defScope s_BadNumber___init__) := ⟨rfl, rfl, rfl, by decide +kernel, rfl, by decide +kernel, by decide +kernel⟩
theorem sc_BadPlace___init__ : FnScope ["self", "place"] ["self", "place"] (defScope s_BadPlace___init__) := ⟨rfl, rfl, rfl, by decide +kernel, rfl, by decide +kernel, by decide +kernel⟩
theorem sc_BadDeed___init__ : FnScope ["self", "deed"] ["self", "deed"] (defScope s_BadDeed___init__) := ⟨rfl, rfl, rfl, by decide +kernel, rfl, by decide +kernel, by decide +kernel⟩
theorem sc_BadQuestion___init__ : FnScope ["self", "place"] ["self", "place"] (defScope s_BadQuestion___init__) := ⟨rfl, rfl, rfl, by decide +kernel, rfl, by decide +kernel, by decide +kernel⟩
theorem sc_is_label : FnScope ["text", "char"] ["text"] (defScope s_is_label) := ⟨rfl, rfl, rfl, by decide +kernel, rfl, by decide +kernel, by decide +kernel⟩
theorem sc_whole_of : FnScope ["text", "signed", "digits", "char"] ["text", "signed"] (defScope s_whole_of) := ⟨rfl, rfl, rfl, by decide +kernel, rfl, by decide +kernel, by decide +kernel⟩
theorem sc_Ratio___init__ : FnScope ["self", "top", "bottom", "shared"] ["self", "top", "bottom"] (defScope s_Ratio___init__) := ⟨rfl, rfl, rfl, by decide +kernel, rfl, by decide +kernel, by decide +kernel⟩
theorem sc_Ratio_read : FnScope ["cls", "text", "written_top", "slash", "written_bottom", "top", "bottom"] ["cls", "text"] (defScope s_Ratio_read) := ⟨rfl, rfl, rfl, by decide +kernel, rfl, by decide +kernel, by decide +kernel⟩
theorem sc_words_of : FnScope ["text"] ["text"] (defScope s_words_of) := ⟨rfl, rfl, rfl, by decide +kernel, rfl, by decide +kernel, by decide +kernel⟩
theorem sc_is_node : FnScope ["text"] ["text"] (defScope s_is_node) := ⟨rfl, rfl, rfl, by decide +kernel, rfl, by decide +kernel, by decide +kernel⟩
theorem sc_is_ratio_text : FnScope ["text"] ["text"] (defScope s_is_ratio_text) := ⟨rfl, rfl, rfl, by decide +kernel, rfl, by decide +kernel, by decide +kernel⟩
theorem sc_is_measure : FnScope ["word"] ["word"] (defScope s_is_measure) := ⟨rfl, rfl, rfl, by decide +kernel, rfl, by decide +kernel, by decide +kernel⟩
theorem sc_Number___init__ : FnScope ["self", "ratio"] ["self", "ratio"] (defScope s_Number___init__) := ⟨rfl, rfl, rfl, by decide +kernel, rfl, by decide +kernel, by decide +kernel⟩
theorem sc_Measure___init__ : FnScope ["self", "word", "name", "things"] ["self", "word", "name", "things"] (defScope s_Measure___init__) := ⟨rfl, rfl, rfl, by decide +kernel, rfl, by decide +kernel, by decide +kernel⟩
theorem sc_Sum___init__ : FnScope ["self", "left", "right"] ["self", "left", "right"] (defScope s_Sum___init__) := ⟨rfl, rfl, rfl, by decide +kernel, rfl, by decide +kernel, by decide +kernel⟩
theorem sc_Difference___init__ : FnScope ["self", "left", "right"] ["self", "left", "right"] (defScope s_Difference___init__) := ⟨rfl, rfl, rfl, by decide +kernel, rfl, by decide +kernel, by decide +kernel⟩
theorem sc_Product___init__ : FnScope ["self", "left", "right"] ["self", "left", "right"] (defScope s_Product___init__) := ⟨rfl, rfl, rfl, by decide +kernel, rfl, by decide +kernel, by decide +kernel⟩
theorem sc_Least___init__ : FnScope ["self", "left", "right"] ["self", "left", "right"] (defScope s_Least___init__) := ⟨rfl, rfl, rfl, by decide +kernel, rfl, by decide +kernel, by decide +kernel⟩
theorem sc_Greatest___init__ : FnScope ["self", "left", "right"] ["self", "left", "right"] (defScope s_Greatest___init__) := ⟨rfl, rfl, rfl, by decide +kernel, rfl, by decide +kernel, by decide +kernel⟩
theorem sc_Comparison___init__ : FnScope ["self", "left", "right"] ["self", "left", "right"] (defScope s_Comparison___init__) := ⟨rfl, rfl, rfl, by decide +kernel, rfl, by decide +kernel, by decide +kernel⟩
theorem sc__word : FnScope ["words", "at"] ["words", "at"] (defScope s__word) := ⟨rfl, rfl, rfl, by decide +kernel, rfl, by decide +kernel, by decide +kernel⟩
theorem sc__after : FnScope ["words", "at", "sign"] ["words", "at", "sign"] (defScope s__after) := ⟨rfl, rfl, rfl, by decide +kernel, rfl, by decide +kernel, by decide +kernel⟩
theorem sc__after_open : FnScope ["words", "at", "depth"] ["words", "at", "depth"] (defScope s__after_open) := ⟨rfl, rfl, rfl, by decide +kernel, rfl, by decide +kernel, by decide +kernel⟩
theorem sc__read_label : FnScope ["words", "at", "word"] ["words", "at"] (defScope s__read_label) := ⟨rfl, rfl, rfl, by decide +kernel, rfl, by decide +kernel, by decide +kernel⟩
theorem sc__read_node : FnScope ["words", "at", "word"] ["words", "at"] (defScope s__read_node) := ⟨rfl, rfl, rfl, by decide +kernel, rfl, by decide +kernel, by decide +kernel⟩
theorem sc__read_number : FnScope ["words", "at", "number"] ["words", "at"] (defScope s__read_number) := ⟨rfl, rfl, rfl, by decide +kernel, rfl, by decide +kernel, by decide +kernel⟩
theorem sc__read_numbers : FnScope ["words", "at", "number", "numbers"] ["words", "at"] (defScope s__read_numbers) := ⟨rfl, rfl, rfl, by decide +kernel, rfl, by decide +kernel, by decide +kernel⟩
theorem sc__read_nodes : FnScope ["words", "at", "nodes", "node"] ["words", "at"] (defScope s__read_nodes) := ⟨rfl, rfl, rfl, by decide +kernel, rfl, by decide +kernel, by decide +kernel⟩
theorem sc__read_two_nodes : FnScope ["words", "at", "first", "second"] ["words", "at"] (defScope s__read_two_nodes) := ⟨rfl, rfl, rfl, by decide +kernel, rfl, by decide +kernel, by decide +kernel⟩
theorem sc__read_things : FnScope ["word", "words", "at", "label"] ["word", "words", "at"] (defScope s__read_things) := ⟨rfl, rfl, rfl, by decide +kernel, rfl, by decide +kernel, by decide +kernel⟩
theorem sc__read_measure : FnScope ["words", "at", "word", "name", "things"] ["words", "at"] (defScope s__read_measure) := ⟨rfl, rfl, rfl, by decide +kernel, rfl, by decide +kernel, by decide +kernel⟩
theorem sc__read_choice : FnScope ["words", "at", "depth", "word", "left", "right"] ["words", "at", "depth"] (defScope s__read_choice) := ⟨rfl, rfl, rfl, by decide +kernel, rfl, by decide +kernel, by decide +kernel⟩
theorem sc__read_part : FnScope ["words", "at", "depth", "word", "tree"] ["words", "at", "depth"] (defScope s__read_part) := ⟨rfl, rfl, rfl, by decide +kernel, rfl, by decide +kernel, by decide +kernel⟩
theorem sc__read_term : FnScope ["words", "at", "depth", "tree", "right"] ["words", "at", "depth"] (defScope s__read_term) := ⟨rfl, rfl, rfl, by decide +kernel, rfl, by decide +kernel, by decide +kernel⟩
theorem sc__read_value : FnScope ["words", "at", "depth", "tree", "sign", "right"] ["words", "at", "depth"] (defScope s__read_value) := ⟨rfl, rfl, rfl, by decide +kernel, rfl, by decide +kernel, by decide +kernel⟩
theorem sc_read_words : FnScope ["words", "allowed", "tree", "at", "right"] ["words"] (defScope s_read_words) := ⟨rfl, rfl, rfl, by decide +kernel, rfl, by decide +kernel, by decide +kernel⟩
theorem sc_Question___init__ : FnScope ["self", "text"] ["self", "text"] (defScope s_Question___init__) := ⟨rfl, rfl, rfl, by decide +kernel, rfl, by decide +kernel, by decide +kernel⟩
theorem sc__law_pot : FnScope ["script", "cell"] ["script"] (defScope s__law_pot) := ⟨rfl, rfl, rfl, by decide +kernel, rfl, by decide +kernel, by decide +kernel⟩
theorem sc__law_digit : FnScope ["pot", "many", "digit"] ["pot", "many"] (defScope s__law_digit) := ⟨rfl, rfl, rfl, by decide +kernel, rfl, by decide +kernel, by decide +kernel⟩
theorem sc__law_common : FnScope ["one", "other", "k", "rest"] ["one", "other"] (defScope s__law_common) := ⟨rfl, rfl, rfl, by decide +kernel, rfl, by decide +kernel, by decide +kernel⟩
theorem sc__law_name : FnScope ["pot", "k", "kind", "signs", "size", "menu", "j"] ["pot", "k"] (defScope s__law_name) := ⟨rfl, rfl, rfl, by decide +kernel, rfl, by decide +kernel, by decide +kernel⟩
theorem sc__law_number : FnScope ["pot", "k"] ["pot", "k"] (defScope s__law_number) := ⟨rfl, rfl, rfl, by decide +kernel, rfl, by decide +kernel, by decide +kernel⟩
theorem sc__law_fraction : FnScope ["pot", "k", "top", "bottom", "both"] ["pot", "k"] (defScope s__law_fraction) := ⟨rfl, rfl, rfl, by decide +kernel, rfl, by decide +kernel, by decide +kernel⟩
theorem sc__law_part : FnScope ["pot", "k", "kind", "word", "many", "row", "j"] ["pot", "k"] (defScope s__law_part) := ⟨rfl, rfl, rfl, by decide +kernel, rfl, by decide +kernel, by decide +kernel⟩
theorem sc__law_opened : FnScope ["pot", "stack", "k", "words", "j", "kind"] ["pot", "stack", "k"] (defScope s__law_opened) := ⟨rfl, rfl, rfl, by decide +kernel, rfl, by decide +kernel, by decide +kernel⟩
theorem sc__law_closed : FnScope ["pot", "stack", "words", "j"] ["pot", "stack"] (defScope s__law_closed) := ⟨rfl, rfl, rfl, by decide +kernel, rfl, by decide +kernel, by decide +kernel⟩
theorem sc__law_question : FnScope ["pot", "words", "stack", "many", "left", "k", "ends", "sign"] ["pot"] (defScope s__law_question) := ⟨rfl, rfl, rfl, by decide +kernel, rfl, by decide +kernel, by decide +kernel⟩
theorem sc__law_is_digits : FnScope ["text", "sign"] ["text"] (defScope s__law_is_digits) := ⟨rfl, rfl, rfl, by decide +kernel, rfl, by decide +kernel, by decide +kernel⟩
theorem sc__law_is_whole : FnScope ["text"] ["text"] (defScope s__law_is_whole) := ⟨rfl, rfl, rfl, by decide +kernel, rfl, by decide +kernel, by decide +kernel⟩
theorem sc__law_is_fraction : FnScope ["text", "halves", "bottom"] ["text"] (defScope s__law_is_fraction) := ⟨rfl, rfl, rfl, by decide +kernel, rfl, by decide +kernel, by decide +kernel⟩
theorem sc__law_is_label : FnScope ["text", "sign"] ["text"] (defScope s__law_is_label) := ⟨rfl, rfl, rfl, by decide +kernel, rfl, by decide +kernel, by decide +kernel⟩
theorem sc__law_behind : FnScope ["word"] ["word"] (defScope s__law_behind) := ⟨rfl, rfl, rfl, by decide +kernel, rfl, by decide +kernel, by decide +kernel⟩
theorem sc__law_stands : FnScope ["word", "need"] ["word", "need"] (defScope s__law_stands) := ⟨rfl, rfl, rfl, by decide +kernel, rfl, by decide +kernel, by decide +kernel⟩
theorem sc__law_wrong_at : FnScope ["words", "stack", "due", "sides", "at", "word"] ["words"] (defScope s__law_wrong_at) := ⟨rfl, rfl, rfl, by decide +kernel, rfl, by decide +kernel, by decide +kernel⟩
theorem sc__law_refused : FnScope ["text", "place", "e"] ["text", "place"] (defScope s__law_refused) := ⟨rfl, rfl, rfl, by decide +kernel, rfl, by decide +kernel, by decide +kernel⟩
theorem sc__law_let : FnScope ["text", "question", "told"] ["text"] (defScope s__law_let) := ⟨rfl, rfl, rfl, by decide +kernel, rfl, by decide +kernel, by decide +kernel⟩
theorem sc__law_asked : FnScope ["words", "text", "place"] ["words"] (defScope s__law_asked) := ⟨rfl, rfl, rfl, by decide +kernel, rfl, by decide +kernel, by decide +kernel⟩
theorem sc__law_spare : FnScope ["pot", "k", "menu"] ["pot", "k"] (defScope s__law_spare) := ⟨rfl, rfl, rfl, by decide +kernel, rfl, by decide +kernel, by decide +kernel⟩
theorem sc__law_changed : FnScope ["pot", "words", "k", "way", "at", "word", "head", "tail", "sign"] ["pot", "words", "k"] (defScope s__law_changed) := ⟨rfl, rfl, rfl, by decide +kernel, rfl, by decide +kernel, by decide +kernel⟩
theorem sc__law_chain : FnScope ["pot", "many", "words", "ends", "k", "kind"] ["pot", "many"] (defScope s__law_chain) := ⟨rfl, rfl, rfl, by decide +kernel, rfl, by decide +kernel, by decide +kernel⟩
theorem sc__law_deep : FnScope ["pot", "deep", "more", "opens", "at", "k"] ["pot"] (defScope s__law_deep) := ⟨rfl, rfl, rfl, by decide +kernel, rfl, by decide +kernel, by decide +kernel⟩
theorem sc__law_long : FnScope ["pot", "words", "k", "spare", "at"] ["pot"] (defScope s__law_long) := ⟨rfl, rfl, rfl, by decide +kernel, rfl, by decide +kernel, by decide +kernel⟩
theorem sc__law_many_digits : FnScope ["pot", "nine"] ["pot"] (defScope s__law_many_digits) := ⟨rfl, rfl, rfl, by decide +kernel, rfl, by decide +kernel, by decide +kernel⟩
theorem sc_law : FnScope ["script", "pot", "words", "text", "kept", "k"] ["script"] (defScope s_law) := ⟨rfl, rfl, rfl, by decide +kernel, rfl, by decide +kernel, by decide +kernel⟩
def d_BadNumber___init__ : DefA := ⟨atM "BadNumber" "__init__", "__init__", "BadNumber.__init__", defArgs s_BadNumber___init__, defBody s_BadNumber___init__, defScope s_BadNumber___init__, [], []⟩
def d_BadPlace___init__ : DefA := ⟨atM "BadPlace" "__init__", "__init__", "BadPlace.__init__", defArgs s_BadPlace___init__, defBody s_BadPlace___init__, defScope s_BadPlace___init__, [], []⟩
def d_BadDeed___init__ : DefA := ⟨atM "BadDeed" "__init__", "__init__", "BadDeed.__init__", defArgs s_BadDeed___init__, defBody s_BadDeed___init__, defScope s_BadDeed___init__, [], []⟩
def d_BadQuestion___init__ : DefA := ⟨atM "BadQuestion" "__init__", "__init__", "BadQuestion.__init__", defArgs s_BadQuestion___init__, defBody s_BadQuestion___init__, defScope s_BadQuestion___init__, [], []⟩
def d_is_label : DefA := ⟨atG "is_label", "is_label", "is_label", defArgs s_is_label, defBody s_is_label, defScope s_is_label, [], []⟩
def d_whole_of : DefA := ⟨atG "whole_of", "whole_of", "whole_of", defArgs s_whole_of, defBody s_whole_of, defScope s_whole_of, [], []⟩
def d_Ratio___init__ : DefA := ⟨atM "Ratio" "__init__", "__init__", "Ratio.__init__", defArgs s_Ratio___init__, defBody s_Ratio___init__, defScope s_Ratio___init__, [.int 1], []⟩
def d_Ratio_read : DefA := ⟨atW "Ratio" "classmethod" "read", "read", "Ratio.read", defArgs s_Ratio_read, defBody s_Ratio_read, defScope s_Ratio_read, [], []⟩
def d_words_of : DefA := ⟨atG "words_of", "words_of", "words_of", defArgs s_words_of, defBody s_words_of, defScope s_words_of, [], []⟩
def d_is_node : DefA := ⟨atG "is_node", "is_node", "is_node", defArgs s_is_node, defBody s_is_node, defScope s_is_node, [], []⟩
def d_is_ratio_text : DefA := ⟨atG "is_ratio_text", "is_ratio_text", "is_ratio_text", defArgs s_is_ratio_text, defBody s_is_ratio_text, defScope s_is_ratio_text, [], []⟩
def d_is_measure : DefA := ⟨atG "is_measure", "is_measure", "is_measure", defArgs s_is_measure, defBody s_is_measure, defScope s_is_measure, [], []⟩
def d_Number___init__ : DefA := ⟨atM "Number" "__init__", "__init__", "Number.__init__", defArgs s_Number___init__, defBody s_Number___init__, defScope s_Number___init__, [], []⟩
def d_Measure___init__ : DefA := ⟨atM "Measure" "__init__", "__init__", "Measure.__init__", defArgs s_Measure___init__, defBody s_Measure___init__, defScope s_Measure___init__, [], []⟩
def d_Sum___init__ : DefA := ⟨atM "Sum" "__init__", "__init__", "Sum.__init__", defArgs s_Sum___init__, defBody s_Sum___init__, defScope s_Sum___init__, [], []⟩
def d_Difference___init__ : DefA := ⟨atM "Difference" "__init__", "__init__", "Difference.__init__", defArgs s_Difference___init__, defBody s_Difference___init__, defScope s_Difference___init__, [], []⟩
def d_Product___init__ : DefA := ⟨atM "Product" "__init__", "__init__", "Product.__init__", defArgs s_Product___init__, defBody s_Product___init__, defScope s_Product___init__, [], []⟩
def d_Least___init__ : DefA := ⟨atM "Least" "__init__", "__init__", "Least.__init__", defArgs s_Least___init__, defBody s_Least___init__, defScope s_Least___init__, [], []⟩
def d_Greatest___init__ : DefA := ⟨atM "Greatest" "__init__", "__init__", "Greatest.__init__", defArgs s_Greatest___init__, defBody s_Greatest___init__, defScope s_Greatest___init__, [], []⟩
def d_Comparison___init__ : DefA := ⟨atM "Comparison" "__init__", "__init__", "Comparison.__init__", defArgs s_Comparison___init__, defBody s_Comparison___init__, defScope s_Comparison___init__, [], []⟩
def d__word : DefA := ⟨atG "_word", "_word", "_word", defArgs s__word, defBody s__word, defScope s__word, [], []⟩
def d__after : DefA := ⟨atG "_after", "_after", "_after", defArgs s__after, defBody s__after, defScope s__after, [], []⟩
def d__after_open : DefA := ⟨atG "_after_open", "_after_open", "_after_open", defArgs s__after_open, defBody s__after_open, defScope s__after_open, [], []⟩
def d__read_label : DefA := ⟨atG "_read_label", "_read_label", "_read_label", defArgs s__read_label, defBody s__read_label, defScope s__read_label, [], []⟩
def d__read_node : DefA := ⟨atG "_read_node", "_read_node", "_read_node", defArgs s__read_node, defBody s__read_node, defScope s__read_node, [], []⟩
def d__read_number : DefA := ⟨atG "_read_number", "_read_number", "_read_number", defArgs s__read_number, defBody s__read_number, defScope s__read_number, [], []⟩
def d__read_numbers : DefA := ⟨atG "_read_numbers", "_read_numbers", "_read_numbers", defArgs s__read_numbers, defBody s__read_numbers, defScope s__read_numbers, [], []⟩
def d__read_nodes : DefA := ⟨atG "_read_nodes", "_read_nodes", "_read_nodes", defArgs s__read_nodes, defBody s__read_nodes, defScope s__read_nodes, [], []⟩
def d__read_two_nodes : DefA := ⟨atG "_read_two_nodes", "_read_two_nodes", "_read_two_nodes", defArgs s__read_two_nodes, defBody s__read_two_nodes, defScope s__read_two_nodes, [], []⟩
def d__read_things : DefA := ⟨atG "_read_things", "_read_things", "_read_things", defArgs s__read_things, defBody s__read_things, defScope s__read_things, [], []⟩
def d__read_measure : DefA := ⟨atG "_read_measure", "_read_measure", "_read_measure", defArgs s__read_measure, defBody s__read_measure, defScope s__read_measure, [], []⟩
def d__read_choice : DefA := ⟨atG "_read_choice", "_read_choice", "_read_choice", defArgs s__read_choice, defBody s__read_choice, defScope s__read_choice, [], []⟩
def d__read_part : DefA := ⟨atG "_read_part", "_read_part", "_read_part", defArgs s__read_part, defBody s__read_part, defScope s__read_part, [], []⟩
def d__read_term : DefA := ⟨atG "_read_term", "_read_term", "_read_term", defArgs s__read_term, defBody s__read_term, defScope s__read_term, [], []⟩
def d__read_value : DefA := ⟨atG "_read_value", "_read_value", "_read_value", defArgs s__read_value, defBody s__read_value, defScope s__read_value, [], []⟩
def d_read_words : DefA := ⟨atG "read_words", "read_words", "read_words", defArgs s_read_words, defBody s_read_words, defScope s_read_words, [], []⟩
def d_Question___init__ : DefA := ⟨atM "Question" "__init__", "__init__", "Question.__init__", defArgs s_Question___init__, defBody s_Question___init__, defScope s_Question___init__, [], []⟩
def d__law_pot : DefA := ⟨atG "_law_pot", "_law_pot", "_law_pot", defArgs s__law_pot, defBody s__law_pot, defScope s__law_pot, [], []⟩
def d__law_digit : DefA := ⟨atG "_law_digit", "_law_digit", "_law_digit", defArgs s__law_digit, defBody s__law_digit, defScope s__law_digit, [], []⟩
def d__law_common : DefA := ⟨atG "_law_common", "_law_common", "_law_common", defArgs s__law_common, defBody s__law_common, defScope s__law_common, [], []⟩
def d__law_name : DefA := ⟨atG "_law_name", "_law_name", "_law_name", defArgs s__law_name, defBody s__law_name, defScope s__law_name, [], []⟩
def d__law_number : DefA := ⟨atG "_law_number", "_law_number", "_law_number", defArgs s__law_number, defBody s__law_number, defScope s__law_number, [], []⟩
def d__law_fraction : DefA := ⟨atG "_law_fraction", "_law_fraction", "_law_fraction", defArgs s__law_fraction, defBody s__law_fraction, defScope s__law_fraction, [], []⟩
def d__law_part : DefA := ⟨atG "_law_part", "_law_part", "_law_part", defArgs s__law_part, defBody s__law_part, defScope s__law_part, [], []⟩
def d__law_opened : DefA := ⟨atG "_law_opened", "_law_opened", "_law_opened", defArgs s__law_opened, defBody s__law_opened, defScope s__law_opened, [], []⟩
def d__law_closed : DefA := ⟨atG "_law_closed", "_law_closed", "_law_closed", defArgs s__law_closed, defBody s__law_closed, defScope s__law_closed, [], []⟩
def d__law_question : DefA := ⟨atG "_law_question", "_law_question", "_law_question", defArgs s__law_question, defBody s__law_question, defScope s__law_question, [], []⟩
def d__law_is_digits : DefA := ⟨atG "_law_is_digits", "_law_is_digits", "_law_is_digits", defArgs s__law_is_digits, defBody s__law_is_digits, defScope s__law_is_digits, [], []⟩
def d__law_is_whole : DefA := ⟨atG "_law_is_whole", "_law_is_whole", "_law_is_whole", defArgs s__law_is_whole, defBody s__law_is_whole, defScope s__law_is_whole, [], []⟩
def d__law_is_fraction : DefA := ⟨atG "_law_is_fraction", "_law_is_fraction", "_law_is_fraction", defArgs s__law_is_fraction, defBody s__law_is_fraction, defScope s__law_is_fraction, [], []⟩
def d__law_is_label : DefA := ⟨atG "_law_is_label", "_law_is_label", "_law_is_label", defArgs s__law_is_label, defBody s__law_is_label, defScope s__law_is_label, [], []⟩
def d__law_behind : DefA := ⟨atG "_law_behind", "_law_behind", "_law_behind", defArgs s__law_behind, defBody s__law_behind, defScope s__law_behind, [], []⟩
def d__law_stands : DefA := ⟨atG "_law_stands", "_law_stands", "_law_stands", defArgs s__law_stands, defBody s__law_stands, defScope s__law_stands, [], []⟩
def d__law_wrong_at : DefA := ⟨atG "_law_wrong_at", "_law_wrong_at", "_law_wrong_at", defArgs s__law_wrong_at, defBody s__law_wrong_at, defScope s__law_wrong_at, [], []⟩
def d__law_refused : DefA := ⟨atG "_law_refused", "_law_refused", "_law_refused", defArgs s__law_refused, defBody s__law_refused, defScope s__law_refused, [], []⟩
def d__law_let : DefA := ⟨atG "_law_let", "_law_let", "_law_let", defArgs s__law_let, defBody s__law_let, defScope s__law_let, [], []⟩
def d__law_asked : DefA := ⟨atG "_law_asked", "_law_asked", "_law_asked", defArgs s__law_asked, defBody s__law_asked, defScope s__law_asked, [], []⟩
def d__law_spare : DefA := ⟨atG "_law_spare", "_law_spare", "_law_spare", defArgs s__law_spare, defBody s__law_spare, defScope s__law_spare, [], []⟩
def d__law_changed : DefA := ⟨atG "_law_changed", "_law_changed", "_law_changed", defArgs s__law_changed, defBody s__law_changed, defScope s__law_changed, [], []⟩
def d__law_chain : DefA := ⟨atG "_law_chain", "_law_chain", "_law_chain", defArgs s__law_chain, defBody s__law_chain, defScope s__law_chain, [], []⟩
def d__law_deep : DefA := ⟨atG "_law_deep", "_law_deep", "_law_deep", defArgs s__law_deep, defBody s__law_deep, defScope s__law_deep, [], []⟩
def d__law_long : DefA := ⟨atG "_law_long", "_law_long", "_law_long", defArgs s__law_long, defBody s__law_long, defScope s__law_long, [], []⟩
def d__law_many_digits : DefA := ⟨atG "_law_many_digits", "_law_many_digits", "_law_many_digits", defArgs s__law_many_digits, defBody s__law_many_digits, defScope s__law_many_digits, [], []⟩
def d_law : DefA := ⟨atG "law", "law", "law", defArgs s_law, defBody s_law, defScope s_law, [], []⟩
def fnL : List DefA := [d_BadNumber___init__, d_BadPlace___init__, d_BadDeed___init__, d_BadQuestion___init__, d_is_label, d_whole_of, d_Ratio___init__, d_Ratio_read, d_words_of, d_is_node, d_is_ratio_text, d_is_measure, d_Number___init__, d_Measure___init__, d_Sum___init__, d_Difference___init__, d_Product___init__, d_Least___init__, d_Greatest___init__, d_Comparison___init__, d__word, d__after, d__after_open, d__read_label, d__read_node, d__read_number, d__read_numbers, d__read_nodes, d__read_two_nodes, d__read_things, d__read_measure, d__read_choice, d__read_part, d__read_term, d__read_value, d_read_words, d_Question___init__, d__law_pot, d__law_digit, d__law_common, d__law_name, d__law_number, d__law_fraction, d__law_part, d__law_opened, d__law_closed, d__law_question, d__law_is_digits, d__law_is_whole, d__law_is_fraction, d__law_is_label, d__law_behind, d__law_stands, d__law_wrong_at, d__law_refused, d__law_let, d__law_asked, d__law_spare, d__law_changed, d__law_chain, d__law_deep, d__law_long, d__law_many_digits, d_law]
def fx_0 : List Fx := [fGlo "is_label", fKeep "is_label", fGlo "whole_of", fKeep "whole_of", fGlo "words_of", fKeep "words_of", fGlo "is_node", fKeep "is_node", fGlo "is_ratio_text", fKeep "is_ratio_text", fGlo "is_measure", fKeep "is_measure", fGlo "_word", fKeep "_word", fGlo "_after", fKeep "_after", fGlo "_after_open", fKeep "_after_open", fGlo "_read_label", fKeep "_read_label", fGlo "_read_node", fKeep "_read_node", fGlo "_read_number", fKeep "_read_number", fGlo "_read_numbers", fKeep "_read_numbers", fGlo "_read_nodes", fKeep "_read_nodes", fGlo "_read_two_nodes", fKeep "_read_two_nodes"]
def fx_1 : List Fx := [fGlo "_read_things", fKeep "_read_things", fGlo "_read_measure", fKeep "_read_measure", fGlo "_read_choice", fKeep "_read_choice", fGlo "_read_part", fKeep "_read_part", fGlo "_read_term", fKeep "_read_term", fGlo "_read_value", fKeep "_read_value", fGlo "read_words", fKeep "read_words", fGlo "_law_pot", fKeep "_law_pot", fGlo "_law_digit", fKeep "_law_digit", fGlo "_law_common", fKeep "_law_common", fGlo "_law_name", fKeep "_law_name", fGlo "_law_number", fKeep "_law_number", fGlo "_law_fraction", fKeep "_law_fraction", fGlo "_law_part", fKeep "_law_part", fGlo "_law_opened", fKeep "_law_opened"]
def fx_2 : List Fx := [fGlo "_law_closed", fKeep "_law_closed", fGlo "_law_question", fKeep "_law_question", fGlo "_law_is_digits", fKeep "_law_is_digits", fGlo "_law_is_whole", fKeep "_law_is_whole", fGlo "_law_is_fraction", fKeep "_law_is_fraction", fGlo "_law_is_label", fKeep "_law_is_label", fGlo "_law_behind", fKeep "_law_behind", fGlo "_law_stands", fKeep "_law_stands", fGlo "_law_wrong_at", fKeep "_law_wrong_at", fGlo "_law_refused", fKeep "_law_refused", fGlo "_law_let", fKeep "_law_let", fGlo "_law_asked", fKeep "_law_asked", fGlo "_law_spare", fKeep "_law_spare", fGlo "_law_changed", fKeep "_law_changed", fGlo "_law_chain", fKeep "_law_chain"]
def fx_3 : List Fx := [fGlo "_law_deep", fKeep "_law_deep", fGlo "_law_long", fKeep "_law_long", fGlo "_law_many_digits", fKeep "_law_many_digits", fGlo "law", fKeep "law", fGlo "CarryError", fGlo "ZeroBottom", fExcC "ZeroBottom", fGlo "BadNumber", fOex "BadNumber", fIni "BadNumber", fXf "BadNumber", fExcC "BadNumber", fNoat "BadNumber" "given", fGlo "BadPlace", fXf "BadPlace", fNoat "BadPlace" "place", fGlo "BadDeed", fXf "BadDeed", fNoat "BadDeed" "deed", fGlo "BadQuestion", fOex "BadQuestion", fIni "BadQuestion", fXf "BadQuestion", fExcC "BadQuestion", fNoat "BadQuestion" "place", fGlo "Ratio"]
def fx_4 : List Fx := [fCls "Ratio", fMkr "Ratio", fNoat "Ratio" "bottom", fNoat "Ratio" "top", fCRead "Ratio", fCMet "Ratio" "read", fGlo "Number", fCls "Number", fMkr "Number", fNoat "Number" "ratio", fGlo "Measure", fCls "Measure", fMkr "Measure", fNoat "Measure" "name", fNoat "Measure" "things", fNoat "Measure" "word", fGlo "Sum", fCls "Sum", fMkr "Sum", fNoat "Sum" "left", fNoat "Sum" "right", fGlo "Difference", fCls "Difference", fMkr "Difference", fNoat "Difference" "left", fNoat "Difference" "right", fGlo "Product", fCls "Product", fMkr "Product", fNoat "Product" "left"]
def fx_5 : List Fx := [fNoat "Product" "right", fGlo "Least", fCls "Least", fMkr "Least", fNoat "Least" "left", fNoat "Least" "right", fGlo "Greatest", fCls "Greatest", fMkr "Greatest", fNoat "Greatest" "left", fNoat "Greatest" "right", fGlo "Comparison", fCls "Comparison", fMkr "Comparison", fNoat "Comparison" "left", fNoat "Comparison" "right", fGlo "Question", fCls "Question", fMkr "Question", fNoat "Question" "tree", fNoat "Question" "words", fExm "BadNumber" "BadNumber" true, fExm "BadNumber" "CarryError" true, fKit "BadNumber" (fun K => (.ref (ga K "BadDeed"))) false, fKit "BadNumber" (fun K => (.ref (ga K "BadNumber"))) true, fKit "BadNumber" (fun K => (.ref (ga K "BadPlace"))) false, fKit "BadNumber" (fun K => (.ref (ga K "BadQuestion"))) false, fKit "BadNumber" (fun K => (.type "ValueError")) true, fExm "BadQuestion" "BadNumber" false, fExm "BadQuestion" "CarryError" true]
def fx_6 : List Fx := [fKit "BadQuestion" (fun K => (.ref (ga K "BadDeed"))) false, fKit "BadQuestion" (fun K => (.ref (ga K "BadNumber"))) false, fKit "BadQuestion" (fun K => (.ref (ga K "BadPlace"))) false, fKit "BadQuestion" (fun K => (.ref (ga K "BadQuestion"))) true, fKit "BadQuestion" (fun K => (.type "ValueError")) true, fExm "ZeroBottom" "BadNumber" false, fExm "ZeroBottom" "CarryError" true, fKit "ZeroBottom" (fun K => (.ref (ga K "BadDeed"))) false, fKit "ZeroBottom" (fun K => (.ref (ga K "BadNumber"))) false, fKit "ZeroBottom" (fun K => (.ref (ga K "BadPlace"))) false, fKit "ZeroBottom" (fun K => (.ref (ga K "BadQuestion"))) false, fKit "ZeroBottom" (fun K => (.type "ValueError")) true, fStr "DIGITS" "0123456789", fStr "LETTERS" "abcdefghijklmnopqrstuvwxyz", fInt "LONGEST_LABEL" 8, fInt "MOST_DIGITS" 2000, fInt "MOST_CHARACTERS" 2000, fGlo "FOR_BOTH_KINDS", fTup "FOR_BOTH_KINDS" [.str "energy", .str "power", .str "pull"], fGlo "FOR_NETS_ONLY", fTup "FOR_NETS_ONLY" [.str "cut", .str "resistance", .str "forests"], fGlo "FOR_BOOKS_ONLY", fTup "FOR_BOOKS_ONLY" [.str "determinant", .str "cost"], fInt "MOST_WORDS" 200, fInt "MOST_DEPTH" 12, fFree "ValueError", fFree "abs", fFree "all", fFree "bool", fFree "classmethod"]
def fx_7 : List Fx := [fBlt "gcd" "math.gcd", fFree "int", fFree "isinstance", fFree "len", fFree "list", fFree "min", fFree "range", fFree "str", fFree "tuple", fNoDig]
def fxL : List Fx := fx_0 ++ fx_1 ++ fx_2 ++ fx_3 ++ fx_4 ++ fx_5 ++ fx_6 ++ fx_7
theorem gm_is_label {K : PySem.W.Frag} {mg : Str → Option Value} (T : Tx fxL fnL K mg) : mg "is_label" = some (.ref (ga K "is_label")) := x_glo T (T.c.fact 0)
theorem k_is_label {K : PySem.W.Frag} {mg : Str → Option Value} (T : Tx fxL fnL K mg) : PySem.W.keepIn K (.ref (ga K "is_label")) = true := x_keep (T.c.fact 1)
theorem gm_whole_of {K : PySem.W.Frag} {mg : Str → Option Value} (T : Tx fxL fnL K mg) : mg "whole_of" = some (.ref (ga K "whole_of")) := x_glo T (T.c.fact 2)
theorem k_whole_of {K : PySem.W.Frag} {mg : Str → Option Value} (T : Tx fxL fnL K mg) : PySem.W.keepIn K (.ref (ga K "whole_of")) = true := x_keep (T.c.fact 3)
theorem gm_words_of {K : PySem.W.Frag} {mg : Str → Option Value} (T : Tx fxL fnL K mg) : mg "words_of" = some (.ref (ga K "words_of")) := x_glo T (T.c.fact 4)
theorem k_words_of {K : PySem.W.Frag} {mg : Str → Option Value} (T : Tx fxL fnL K mg) : PySem.W.keepIn K (.ref (ga K "words_of")) = true := x_keep (T.c.fact 5)
theorem gm_is_node {K : PySem.W.Frag} {mg : Str → Option Value} (T : Tx fxL fnL K mg) : mg "is_node" = some (.ref (ga K "is_node")) := x_glo T (T.c.fact 6)
theorem k_is_node {K : PySem.W.Frag} {mg : Str → Option Value} (T : Tx fxL fnL K mg) : PySem.W.keepIn K (.ref (ga K "is_node")) = true := x_keep (T.c.fact 7)
theorem gm_is_ratio_text {K : PySem.W.Frag} {mg : Str → Option Value} (T : Tx fxL fnL K mg) : mg "is_ratio_text" = some (.ref (ga K "is_ratio_text")) := x_glo T (T.c.fact 8)
theorem k_is_ratio_text {K : PySem.W.Frag} {mg : Str → Option Value} (T : Tx fxL fnL K mg) : PySem.W.keepIn K (.ref (ga K "is_ratio_text")) = true := x_keep (T.c.fact 9)
theorem gm_is_measure {K : PySem.W.Frag} {mg : Str → Option Value} (T : Tx fxL fnL K mg) : mg "is_measure" = some (.ref (ga K "is_measure")) := x_glo T (T.c.fact 10)
theorem k_is_measure {K : PySem.W.Frag} {mg : Str → Option Value} (T : Tx fxL fnL K mg) : PySem.W.keepIn K (.ref (ga K "is_measure")) = true := x_keep (T.c.fact 11)
theorem gm__word {K : PySem.W.Frag} {mg : Str → Option Value} (T : Tx fxL fnL K mg) : mg "_word" = some (.ref (ga K "_word")) := x_glo T (T.c.fact 12)
theorem k__word {K : PySem.W.Frag} {mg : Str → Option Value} (T : Tx fxL fnL K mg) : PySem.W.keepIn K (.ref (ga K "_word")) = true := x_keep (T.c.fact 13)
theorem gm__after {K : PySem.W.Frag} {mg : Str → Option Value} (T : Tx fxL fnL K mg) : mg "_after" = some (.ref (ga K "_after")) := x_glo T (T.c.fact 14)
theorem k__after {K : PySem.W.Frag} {mg : Str → Option Value} (T : Tx fxL fnL K mg) : PySem.W.keepIn K (.ref (ga K "_after")) = true := x_keep (T.c.fact 15)
theorem gm__after_open {K : PySem.W.Frag} {mg : Str → Option Value} (T : Tx fxL fnL K mg) : mg "_after_open" = some (.ref (ga K "_after_open")) := x_glo T (T.c.fact 16)
theorem k__after_open {K : PySem.W.Frag} {mg : Str → Option Value} (T : Tx fxL fnL K mg) : PySem.W.keepIn K (.ref (ga K "_after_open")) = true := x_keep (T.c.fact 17)
theorem gm__read_label {K : PySem.W.Frag} {mg : Str → Option Value} (T : Tx fxL fnL K mg) : mg "_read_label" = some (.ref (ga K "_read_label")) := x_glo T (T.c.fact 18)
theorem k__read_label {K : PySem.W.Frag} {mg : Str → Option Value} (T : Tx fxL fnL K mg) : PySem.W.keepIn K (.ref (ga K "_read_label")) = true := x_keep (T.c.fact 19)
theorem gm__read_node {K : PySem.W.Frag} {mg : Str → Option Value} (T : Tx fxL fnL K mg) : mg "_read_node" = some (.ref (ga K "_read_node")) := x_glo T (T.c.fact 20)
theorem k__read_node {K : PySem.W.Frag} {mg : Str → Option Value} (T : Tx fxL fnL K mg) : PySem.W.keepIn K (.ref (ga K "_read_node")) = true := x_keep (T.c.fact 21)
theorem gm__read_number {K : PySem.W.Frag} {mg : Str → Option Value} (T : Tx fxL fnL K mg) : mg "_read_number" = some (.ref (ga K "_read_number")) := x_glo T (T.c.fact 22)
theorem k__read_number {K : PySem.W.Frag} {mg : Str → Option Value} (T : Tx fxL fnL K mg) : PySem.W.keepIn K (.ref (ga K "_read_number")) = true := x_keep (T.c.fact 23)
theorem gm__read_numbers {K : PySem.W.Frag} {mg : Str → Option Value} (T : Tx fxL fnL K mg) : mg "_read_numbers" = some (.ref (ga K "_read_numbers")) := x_glo T (T.c.fact 24)
theorem k__read_numbers {K : PySem.W.Frag} {mg : Str → Option Value} (T : Tx fxL fnL K mg) : PySem.W.keepIn K (.ref (ga K "_read_numbers")) = true := x_keep (T.c.fact 25)
theorem gm__read_nodes {K : PySem.W.Frag} {mg : Str → Option Value} (T : Tx fxL fnL K mg) : mg "_read_nodes" = some (.ref (ga K "_read_nodes")) := x_glo T (T.c.fact 26)
theorem k__read_nodes {K : PySem.W.Frag} {mg : Str → Option Value} (T : Tx fxL fnL K mg) : PySem.W.keepIn K (.ref (ga K "_read_nodes")) = true := x_keep (T.c.fact 27)
theorem gm__read_two_nodes {K : PySem.W.Frag} {mg : Str → Option Value} (T : Tx fxL fnL K mg) : mg "_read_two_nodes" = some (.ref (ga K "_read_two_nodes")) := x_glo T (T.c.fact 28)
theorem k__read_two_nodes {K : PySem.W.Frag} {mg : Str → Option Value} (T : Tx fxL fnL K mg) : PySem.W.keepIn K (.ref (ga K "_read_two_nodes")) = true := x_keep (T.c.fact 29)
theorem gm__read_things {K : PySem.W.Frag} {mg : Str → Option Value} (T : Tx fxL fnL K mg) : mg "_read_things" = some (.ref (ga K "_read_things")) := x_glo T (T.c.fact 30)
theorem k__read_things {K : PySem.W.Frag} {mg : Str → Option Value} (T : Tx fxL fnL K mg) : PySem.W.keepIn K (.ref (ga K "_read_things")) = true := x_keep (T.c.fact 31)
theorem gm__read_measure {K : PySem.W.Frag} {mg : Str → Option Value} (T : Tx fxL fnL K mg) : mg "_read_measure" = some (.ref (ga K "_read_measure")) := x_glo T (T.c.fact 32)
theorem k__read_measure {K : PySem.W.Frag} {mg : Str → Option Value} (T : Tx fxL fnL K mg) : PySem.W.keepIn K (.ref (ga K "_read_measure")) = true := x_keep (T.c.fact 33)
theorem gm__read_choice {K : PySem.W.Frag} {mg : Str → Option Value} (T : Tx fxL fnL K mg) : mg "_read_choice" = some (.ref (ga K "_read_choice")) := x_glo T (T.c.fact 34)
theorem k__read_choice {K : PySem.W.Frag} {mg : Str → Option Value} (T : Tx fxL fnL K mg) : PySem.W.keepIn K (.ref (ga K "_read_choice")) = true := x_keep (T.c.fact 35)
theorem gm__read_part {K : PySem.W.Frag} {mg : Str → Option Value} (T : Tx fxL fnL K mg) : mg "_read_part" = some (.ref (ga K "_read_part")) := x_glo T (T.c.fact 36)
theorem k__read_part {K : PySem.W.Frag} {mg : Str → Option Value} (T : Tx fxL fnL K mg) : PySem.W.keepIn K (.ref (ga K "_read_part")) = true := x_keep (T.c.fact 37)
theorem gm__read_term {K : PySem.W.Frag} {mg : Str → Option Value} (T : Tx fxL fnL K mg) : mg "_read_term" = some (.ref (ga K "_read_term")) := x_glo T (T.c.fact 38)
theorem k__read_term {K : PySem.W.Frag} {mg : Str → Option Value} (T : Tx fxL fnL K mg) : PySem.W.keepIn K (.ref (ga K "_read_term")) = true := x_keep (T.c.fact 39)
theorem gm__read_value {K : PySem.W.Frag} {mg : Str → Option Value} (T : Tx fxL fnL K mg) : mg "_read_value" = some (.ref (ga K "_read_value")) := x_glo T (T.c.fact 40)
theorem k__read_value {K : PySem.W.Frag} {mg : Str → Option Value} (T : Tx fxL fnL K mg) : PySem.W.keepIn K (.ref (ga K "_read_value")) = true := x_keep (T.c.fact 41)
theorem gm_read_words {K : PySem.W.Frag} {mg : Str → Option Value} (T : Tx fxL fnL K mg) : mg "read_words" = some (.ref (ga K "read_words")) := x_glo T (T.c.fact 42)
theorem k_read_words {K : PySem.W.Frag} {mg : Str → Option Value} (T : Tx fxL fnL K mg) : PySem.W.keepIn K (.ref (ga K "read_words")) = true := x_keep (T.c.fact 43)
theorem gm__law_pot {K : PySem.W.Frag} {mg : Str → Option Value} (T : Tx fxL fnL K mg) : mg "_law_pot" = some (.ref (ga K "_law_pot")) := x_glo T (T.c.fact 44)
theorem k__law_pot {K : PySem.W.Frag} {mg : Str → Option Value} (T : Tx fxL fnL K mg) : PySem.W.keepIn K (.ref (ga K "_law_pot")) = true := x_keep (T.c.fact 45)
theorem gm__law_digit {K : PySem.W.Frag} {mg : Str → Option Value} (T : Tx fxL fnL K mg) : mg "_law_digit" = some (.ref (ga K "_law_digit")) := x_glo T (T.c.fact 46)
theorem k__law_digit {K : PySem.W.Frag} {mg : Str → Option Value} (T : Tx fxL fnL K mg) : PySem.W.keepIn K (.ref (ga K "_law_digit")) = true := x_keep (T.c.fact 47)
theorem gm__law_common {K : PySem.W.Frag} {mg : Str → Option Value} (T : Tx fxL fnL K mg) : mg "_law_common" = some (.ref (ga K "_law_common")) := x_glo T (T.c.fact 48)
theorem k__law_common {K : PySem.W.Frag} {mg : Str → Option Value} (T : Tx fxL fnL K mg) : PySem.W.keepIn K (.ref (ga K "_law_common")) = true := x_keep (T.c.fact 49)
theorem gm__law_name {K : PySem.W.Frag} {mg : Str → Option Value} (T : Tx fxL fnL K mg) : mg "_law_name" = some (.ref (ga K "_law_name")) := x_glo T (T.c.fact 50)
theorem k__law_name {K : PySem.W.Frag} {mg : Str → Option Value} (T : Tx fxL fnL K mg) : PySem.W.keepIn K (.ref (ga K "_law_name")) = true := x_keep (T.c.fact 51)
theorem gm__law_number {K : PySem.W.Frag} {mg : Str → Option Value} (T : Tx fxL fnL K mg) : mg "_law_number" = some (.ref (ga K "_law_number")) := x_glo T (T.c.fact 52)
theorem k__law_number {K : PySem.W.Frag} {mg : Str → Option Value} (T : Tx fxL fnL K mg) : PySem.W.keepIn K (.ref (ga K "_law_number")) = true := x_keep (T.c.fact 53)
theorem gm__law_fraction {K : PySem.W.Frag} {mg : Str → Option Value} (T : Tx fxL fnL K mg) : mg "_law_fraction" = some (.ref (ga K "_law_fraction")) := x_glo T (T.c.fact 54)
theorem k__law_fraction {K : PySem.W.Frag} {mg : Str → Option Value} (T : Tx fxL fnL K mg) : PySem.W.keepIn K (.ref (ga K "_law_fraction")) = true := x_keep (T.c.fact 55)
theorem gm__law_part {K : PySem.W.Frag} {mg : Str → Option Value} (T : Tx fxL fnL K mg) : mg "_law_part" = some (.ref (ga K "_law_part")) := x_glo T (T.c.fact 56)
theorem k__law_part {K : PySem.W.Frag} {mg : Str → Option Value} (T : Tx fxL fnL K mg) : PySem.W.keepIn K (.ref (ga K "_law_part")) = true := x_keep (T.c.fact 57)
theorem gm__law_opened {K : PySem.W.Frag} {mg : Str → Option Value} (T : Tx fxL fnL K mg) : mg "_law_opened" = some (.ref (ga K "_law_opened")) := x_glo T (T.c.fact 58)
theorem k__law_opened {K : PySem.W.Frag} {mg : Str → Option Value} (T : Tx fxL fnL K mg) : PySem.W.keepIn K (.ref (ga K "_law_opened")) = true := x_keep (T.c.fact 59)
theorem gm__law_closed {K : PySem.W.Frag} {mg : Str → Option Value} (T : Tx fxL fnL K mg) : mg "_law_closed" = some (.ref (ga K "_law_closed")) := x_glo T (T.c.fact 60)
theorem k__law_closed {K : PySem.W.Frag} {mg : Str → Option Value} (T : Tx fxL fnL K mg) : PySem.W.keepIn K (.ref (ga K "_law_closed")) = true := x_keep (T.c.fact 61)
theorem gm__law_question {K : PySem.W.Frag} {mg : Str → Option Value} (T : Tx fxL fnL K mg) : mg "_law_question" = some (.ref (ga K "_law_question")) := x_glo T (T.c.fact 62)
theorem k__law_question {K : PySem.W.Frag} {mg : Str → Option Value} (T : Tx fxL fnL K mg) : PySem.W.keepIn K (.ref (ga K "_law_question")) = true := x_keep (T.c.fact 63)
theorem gm__law_is_digits {K : PySem.W.Frag} {mg : Str → Option Value} (T : Tx fxL fnL K mg) : mg "_law_is_digits" = some (.ref (ga K "_law_is_digits")) := x_glo T (T.c.fact 64)
theorem k__law_is_digits {K : PySem.W.Frag} {mg : Str → Option Value} (T : Tx fxL fnL K mg) : PySem.W.keepIn K (.ref (ga K "_law_is_digits")) = true := x_keep (T.c.fact 65)
theorem gm__law_is_whole {K : PySem.W.Frag} {mg : Str → Option Value} (T : Tx fxL fnL K mg) : mg "_law_is_whole" = some (.ref (ga K "_law_is_whole")) := x_glo T (T.c.fact 66)
theorem k__law_is_whole {K : PySem.W.Frag} {mg : Str → Option Value} (T : Tx fxL fnL K mg) : PySem.W.keepIn K (.ref (ga K "_law_is_whole")) = true := x_keep (T.c.fact 67)
theorem gm__law_is_fraction {K : PySem.W.Frag} {mg : Str → Option Value} (T : Tx fxL fnL K mg) : mg "_law_is_fraction" = some (.ref (ga K "_law_is_fraction")) := x_glo T (T.c.fact 68)
theorem k__law_is_fraction {K : PySem.W.Frag} {mg : Str → Option Value} (T : Tx fxL fnL K mg) : PySem.W.keepIn K (.ref (ga K "_law_is_fraction")) = true := x_keep (T.c.fact 69)
theorem gm__law_is_label {K : PySem.W.Frag} {mg : Str → Option Value} (T : Tx fxL fnL K mg) : mg "_law_is_label" = some (.ref (ga K "_law_is_label")) := x_glo T (T.c.fact 70)
theorem k__law_is_label {K : PySem.W.Frag} {mg : Str → Option Value} (T : Tx fxL fnL K mg) : PySem.W.keepIn K (.ref (ga K "_law_is_label")) = true := x_keep (T.c.fact 71)
theorem gm__law_behind {K : PySem.W.Frag} {mg : Str → Option Value} (T : Tx fxL fnL K mg) : mg "_law_behind" = some (.ref (ga K "_law_behind")) := x_glo T (T.c.fact 72)
theorem k__law_behind {K : PySem.W.Frag} {mg : Str → Option Value} (T : Tx fxL fnL K mg) : PySem.W.keepIn K (.ref (ga K "_law_behind")) = true := x_keep (T.c.fact 73)
theorem gm__law_stands {K : PySem.W.Frag} {mg : Str → Option Value} (T : Tx fxL fnL K mg) : mg "_law_stands" = some (.ref (ga K "_law_stands")) := x_glo T (T.c.fact 74)
theorem k__law_stands {K : PySem.W.Frag} {mg : Str → Option Value} (T : Tx fxL fnL K mg) : PySem.W.keepIn K (.ref (ga K "_law_stands")) = true := x_keep (T.c.fact 75)
theorem gm__law_wrong_at {K : PySem.W.Frag} {mg : Str → Option Value} (T : Tx fxL fnL K mg) : mg "_law_wrong_at" = some (.ref (ga K "_law_wrong_at")) := x_glo T (T.c.fact 76)
theorem k__law_wrong_at {K : PySem.W.Frag} {mg : Str → Option Value} (T : Tx fxL fnL K mg) : PySem.W.keepIn K (.ref (ga K "_law_wrong_at")) = true := x_keep (T.c.fact 77)
theorem gm__law_refused {K : PySem.W.Frag} {mg : Str → Option Value} (T : Tx fxL fnL K mg) : mg "_law_refused" = some (.ref (ga K "_law_refused")) := x_glo T (T.c.fact 78)
theorem k__law_refused {K : PySem.W.Frag} {mg : Str → Option Value} (T : Tx fxL fnL K mg) : PySem.W.keepIn K (.ref (ga K "_law_refused")) = true := x_keep (T.c.fact 79)
theorem gm__law_let {K : PySem.W.Frag} {mg : Str → Option Value} (T : Tx fxL fnL K mg) : mg "_law_let" = some (.ref (ga K "_law_let")) := x_glo T (T.c.fact 80)
theorem k__law_let {K : PySem.W.Frag} {mg : Str → Option Value} (T : Tx fxL fnL K mg) : PySem.W.keepIn K (.ref (ga K "_law_let")) = true := x_keep (T.c.fact 81)
theorem gm__law_asked {K : PySem.W.Frag} {mg : Str → Option Value} (T : Tx fxL fnL K mg) : mg "_law_asked" = some (.ref (ga K "_law_asked")) := x_glo T (T.c.fact 82)
theorem k__law_asked {K : PySem.W.Frag} {mg : Str → Option Value} (T : Tx fxL fnL K mg) : PySem.W.keepIn K (.ref (ga K "_law_asked")) = true := x_keep (T.c.fact 83)
theorem gm__law_spare {K : PySem.W.Frag} {mg : Str → Option Value} (T : Tx fxL fnL K mg) : mg "_law_spare" = some (.ref (ga K "_law_spare")) := x_glo T (T.c.fact 84)
theorem k__law_spare {K : PySem.W.Frag} {mg : Str → Option Value} (T : Tx fxL fnL K mg) : PySem.W.keepIn K (.ref (ga K "_law_spare")) = true := x_keep (T.c.fact 85)
theorem gm__law_changed {K : PySem.W.Frag} {mg : Str → Option Value} (T : Tx fxL fnL K mg) : mg "_law_changed" = some (.ref (ga K "_law_changed")) := x_glo T (T.c.fact 86)
theorem k__law_changed {K : PySem.W.Frag} {mg : Str → Option Value} (T : Tx fxL fnL K mg) : PySem.W.keepIn K (.ref (ga K "_law_changed")) = true := x_keep (T.c.fact 87)
theorem gm__law_chain {K : PySem.W.Frag} {mg : Str → Option Value} (T : Tx fxL fnL K mg) : mg "_law_chain" = some (.ref (ga K "_law_chain")) := x_glo T (T.c.fact 88)
theorem k__law_chain {K : PySem.W.Frag} {mg : Str → Option Value} (T : Tx fxL fnL K mg) : PySem.W.keepIn K (.ref (ga K "_law_chain")) = true := x_keep (T.c.fact 89)
theorem gm__law_deep {K : PySem.W.Frag} {mg : Str → Option Value} (T : Tx fxL fnL K mg) : mg "_law_deep" = some (.ref (ga K "_law_deep")) := x_glo T (T.c.fact 90)
theorem k__law_deep {K : PySem.W.Frag} {mg : Str → Option Value} (T : Tx fxL fnL K mg) : PySem.W.keepIn K (.ref (ga K "_law_deep")) = true := x_keep (T.c.fact 91)
theorem gm__law_long {K : PySem.W.Frag} {mg : Str → Option Value} (T : Tx fxL fnL K mg) : mg "_law_long" = some (.ref (ga K "_law_long")) := x_glo T (T.c.fact 92)
theorem k__law_long {K : PySem.W.Frag} {mg : Str → Option Value} (T : Tx fxL fnL K mg) : PySem.W.keepIn K (.ref (ga K "_law_long")) = true := x_keep (T.c.fact 93)
theorem gm__law_many_digits {K : PySem.W.Frag} {mg : Str → Option Value} (T : Tx fxL fnL K mg) : mg "_law_many_digits" = some (.ref (ga K "_law_many_digits")) := x_glo T (T.c.fact 94)
theorem k__law_many_digits {K : PySem.W.Frag} {mg : Str → Option Value} (T : Tx fxL fnL K mg) : PySem.W.keepIn K (.ref (ga K "_law_many_digits")) = true := x_keep (T.c.fact 95)
theorem gm_law {K : PySem.W.Frag} {mg : Str → Option Value} (T : Tx fxL fnL K mg) : mg "law" = some (.ref (ga K "law")) := x_glo T (T.c.fact 96)
theorem k_law {K : PySem.W.Frag} {mg : Str → Option Value} (T : Tx fxL fnL K mg) : PySem.W.keepIn K (.ref (ga K "law")) = true := x_keep (T.c.fact 97)
theorem gm_CarryError {K : PySem.W.Frag} {mg : Str → Option Value} (T : Tx fxL fnL K mg) : mg "CarryError" = some (.ref (ga K "CarryError")) := x_glo T (T.c.fact 98)
theorem gm_ZeroBottom {K : PySem.W.Frag} {mg : Str → Option Value} (T : Tx fxL fnL K mg) : mg "ZeroBottom" = some (.ref (ga K "ZeroBottom")) := x_glo T (T.c.fact 99)
theorem xe_ZeroBottom {K : PySem.W.Frag} {mg : Str → Option Value} (T : Tx fxL fnL K mg) : ExcC K (ga K "ZeroBottom") := x_excC (T.c.fact 100)
theorem gm_BadNumber {K : PySem.W.Frag} {mg : Str → Option Value} (T : Tx fxL fnL K mg) : mg "BadNumber" = some (.ref (ga K "BadNumber")) := x_glo T (T.c.fact 101)
theorem ex_BadNumber {K : PySem.W.Frag} {mg : Str → Option Value} (T : Tx fxL fnL K mg) : OexC K (ga K "BadNumber") := oexB_ok (T.c.fact 102)
theorem ii_BadNumber {K : PySem.W.Frag} {mg : Str → Option Value} (T : Tx fxL fnL K mg) : PySem.W.findIn K (.ref (ga K "BadNumber")) "__init__" = some (some (.ref (ma K (ga K "BadNumber") "__init__"))) := (x_ini (T.c.fact 103)).1
theorem it_BadNumber {K : PySem.W.Frag} {mg : Str → Option Value} (T : Tx fxL fnL K mg) : PySem.W.typeIn K (.ref (ma K (ga K "BadNumber") "__init__")) = some (.type "function") := (x_ini (T.c.fact 103)).2
theorem xf_BadNumber {K : PySem.W.Frag} {mg : Str → Option Value} (T : Tx fxL fnL K mg) : XfC K (ga K "BadNumber") := xfB_ok (T.c.fact 104)
theorem xe_BadNumber {K : PySem.W.Frag} {mg : Str → Option Value} (T : Tx fxL fnL K mg) : ExcC K (ga K "BadNumber") := x_excC (T.c.fact 105)
theorem xn_BadNumber_given {K : PySem.W.Frag} {mg : Str → Option Value} (T : Tx fxL fnL K mg) : PySem.W.findIn K (.ref (ga K "BadNumber")) "given" = some none := noat_ok (T.c.fact 106)
theorem gm_BadPlace {K : PySem.W.Frag} {mg : Str → Option Value} (T : Tx fxL fnL K mg) : mg "BadPlace" = some (.ref (ga K "BadPlace")) := x_glo T (T.c.fact 107)
theorem xf_BadPlace {K : PySem.W.Frag} {mg : Str → Option Value} (T : Tx fxL fnL K mg) : XfC K (ga K "BadPlace") := xfB_ok (T.c.fact 108)
theorem xn_BadPlace_place {K : PySem.W.Frag} {mg : Str → Option Value} (T : Tx fxL fnL K mg) : PySem.W.findIn K (.ref (ga K "BadPlace")) "place" = some none := noat_ok (T.c.fact 109)
theorem gm_BadDeed {K : PySem.W.Frag} {mg : Str → Option Value} (T : Tx fxL fnL K mg) : mg "BadDeed" = some (.ref (ga K "BadDeed")) := x_glo T (T.c.fact 110)
theorem xf_BadDeed {K : PySem.W.Frag} {mg : Str → Option Value} (T : Tx fxL fnL K mg) : XfC K (ga K "BadDeed") := xfB_ok (T.c.fact 111)
theorem xn_BadDeed_deed {K : PySem.W.Frag} {mg : Str → Option Value} (T : Tx fxL fnL K mg) : PySem.W.findIn K (.ref (ga K "BadDeed")) "deed" = some none := noat_ok (T.c.fact 112)
theorem gm_BadQuestion {K : PySem.W.Frag} {mg : Str → Option Value} (T : Tx fxL fnL K mg) : mg "BadQuestion" = some (.ref (ga K "BadQuestion")) := x_glo T (T.c.fact 113)
theorem ex_BadQuestion {K : PySem.W.Frag} {mg : Str → Option Value} (T : Tx fxL fnL K mg) : OexC K (ga K "BadQuestion") := oexB_ok (T.c.fact 114)
theorem ii_BadQuestion {K : PySem.W.Frag} {mg : Str → Option Value} (T : Tx fxL fnL K mg) : PySem.W.findIn K (.ref (ga K "BadQuestion")) "__init__" = some (some (.ref (ma K (ga K "BadQuestion") "__init__"))) := (x_ini (T.c.fact 115)).1
theorem it_BadQuestion {K : PySem.W.Frag} {mg : Str → Option Value} (T : Tx fxL fnL K mg) : PySem.W.typeIn K (.ref (ma K (ga K "BadQuestion") "__init__")) = some (.type "function") := (x_ini (T.c.fact 115)).2
theorem xf_BadQuestion {K : PySem.W.Frag} {mg : Str → Option Value} (T : Tx fxL fnL K mg) : XfC K (ga K "BadQuestion") := xfB_ok (T.c.fact 116)
theorem xe_BadQuestion {K : PySem.W.Frag} {mg : Str → Option Value} (T : Tx fxL fnL K mg) : ExcC K (ga K "BadQuestion") := x_excC (T.c.fact 117)
theorem xn_BadQuestion_place {K : PySem.W.Frag} {mg : Str → Option Value} (T : Tx fxL fnL K mg) : PySem.W.findIn K (.ref (ga K "BadQuestion")) "place" = some none := noat_ok (T.c.fact 118)
theorem gm_Ratio {K : PySem.W.Frag} {mg : Str → Option Value} (T : Tx fxL fnL K mg) : mg "Ratio" = some (.ref (ga K "Ratio")) := x_glo T (T.c.fact 119)
theorem cl_Ratio {K : PySem.W.Frag} {mg : Str → Option Value} (T : Tx fxL fnL K mg) : Cls K (ga K "Ratio") := cls_ok (T.c.fact 120)
theorem mk_Ratio {K : PySem.W.Frag} {mg : Str → Option Value} (T : Tx fxL fnL K mg) : Mk K (ga K "Ratio") (ma K (ga K "Ratio") "__init__") := mkr_ok (T.c.fact 121)
theorem na_Ratio_bottom {K : PySem.W.Frag} {mg : Str → Option Value} (T : Tx fxL fnL K mg) : NoAttr K (ga K "Ratio") "bottom" := noat_ok (T.c.fact 122)
theorem na_Ratio_top {K : PySem.W.Frag} {mg : Str → Option Value} (T : Tx fxL fnL K mg) : NoAttr K (ga K "Ratio") "top" := noat_ok (T.c.fact 123)
theorem cr_Ratio {K : PySem.W.Frag} {mg : Str → Option Value} (T : Tx fxL fnL K mg) : ClX.CRead K (ga K "Ratio") (.type "type") := x_cread (T.c.fact 124)
theorem cm_Ratio_read {K : PySem.W.Frag} {mg : Str → Option Value} (T : Tx fxL fnL K mg) : ClX.CMet K (ga K "Ratio") (.type "type") "read" (ma K (ga K "Ratio") "read") (wf K (ga K "Ratio") "classmethod" "read") := x_cmet (T.c.fact 125)
theorem gm_Number {K : PySem.W.Frag} {mg : Str → Option Value} (T : Tx fxL fnL K mg) : mg "Number" = some (.ref (ga K "Number")) := x_glo T (T.c.fact 126)
theorem cl_Number {K : PySem.W.Frag} {mg : Str → Option Value} (T : Tx fxL fnL K mg) : Cls K (ga K "Number") := cls_ok (T.c.fact 127)
theorem mk_Number {K : PySem.W.Frag} {mg : Str → Option Value} (T : Tx fxL fnL K mg) : Mk K (ga K "Number") (ma K (ga K "Number") "__init__") := mkr_ok (T.c.fact 128)
theorem na_Number_ratio {K : PySem.W.Frag} {mg : Str → Option Value} (T : Tx fxL fnL K mg) : NoAttr K (ga K "Number") "ratio" := noat_ok (T.c.fact 129)
theorem gm_Measure {K : PySem.W.Frag} {mg : Str → Option Value} (T : Tx fxL fnL K mg) : mg "Measure" = some (.ref (ga K "Measure")) := x_glo T (T.c.fact 130)
theorem cl_Measure {K : PySem.W.Frag} {mg : Str → Option Value} (T : Tx fxL fnL K mg) : Cls K (ga K "Measure") := cls_ok (T.c.fact 131)
theorem mk_Measure {K : PySem.W.Frag} {mg : Str → Option Value} (T : Tx fxL fnL K mg) : Mk K (ga K "Measure") (ma K (ga K "Measure") "__init__") := mkr_ok (T.c.fact 132)
theorem na_Measure_name {K : PySem.W.Frag} {mg : Str → Option Value} (T : Tx fxL fnL K mg) : NoAttr K (ga K "Measure") "name" := noat_ok (T.c.fact 133)
theorem na_Measure_things {K : PySem.W.Frag} {mg : Str → Option Value} (T : Tx fxL fnL K mg) : NoAttr K (ga K "Measure") "things" := noat_ok (T.c.fact 134)
theorem na_Measure_word {K : PySem.W.Frag} {mg : Str → Option Value} (T : Tx fxL fnL K mg) : NoAttr K (ga K "Measure") "word" := noat_ok (T.c.fact 135)
theorem gm_Sum {K : PySem.W.Frag} {mg : Str → Option Value} (T : Tx fxL fnL K mg) : mg "Sum" = some (.ref (ga K "Sum")) := x_glo T (T.c.fact 136)
theorem cl_Sum {K : PySem.W.Frag} {mg : Str → Option Value} (T : Tx fxL fnL K mg) : Cls K (ga K "Sum") := cls_ok (T.c.fact 137)
theorem mk_Sum {K : PySem.W.Frag} {mg : Str → Option Value} (T : Tx fxL fnL K mg) : Mk K (ga K "Sum") (ma K (ga K "Sum") "__init__") := mkr_ok (T.c.fact 138)
theorem na_Sum_left {K : PySem.W.Frag} {mg : Str → Option Value} (T : Tx fxL fnL K mg) : NoAttr K (ga K "Sum") "left" := noat_ok (T.c.fact 139)
theorem na_Sum_right {K : PySem.W.Frag} {mg : Str → Option Value} (T : Tx fxL fnL K mg) : NoAttr K (ga K "Sum") "right" := noat_ok (T.c.fact 140)
theorem gm_Difference {K : PySem.W.Frag} {mg : Str → Option Value} (T : Tx fxL fnL K mg) : mg "Difference" = some (.ref (ga K "Difference")) := x_glo T (T.c.fact 141)
theorem cl_Difference {K : PySem.W.Frag} {mg : Str → Option Value} (T : Tx fxL fnL K mg) : Cls K (ga K "Difference") := cls_ok (T.c.fact 142)
theorem mk_Difference {K : PySem.W.Frag} {mg : Str → Option Value} (T : Tx fxL fnL K mg) : Mk K (ga K "Difference") (ma K (ga K "Difference") "__init__") := mkr_ok (T.c.fact 143)
theorem na_Difference_left {K : PySem.W.Frag} {mg : Str → Option Value} (T : Tx fxL fnL K mg) : NoAttr K (ga K "Difference") "left" := noat_ok (T.c.fact 144)
theorem na_Difference_right {K : PySem.W.Frag} {mg : Str → Option Value} (T : Tx fxL fnL K mg) : NoAttr K (ga K "Difference") "right" := noat_ok (T.c.fact 145)
theorem gm_Product {K : PySem.W.Frag} {mg : Str → Option Value} (T : Tx fxL fnL K mg) : mg "Product" = some (.ref (ga K "Product")) := x_glo T (T.c.fact 146)
theorem cl_Product {K : PySem.W.Frag} {mg : Str → Option Value} (T : Tx fxL fnL K mg) : Cls K (ga K "Product") := cls_ok (T.c.fact 147)
theorem mk_Product {K : PySem.W.Frag} {mg : Str → Option Value} (T : Tx fxL fnL K mg) : Mk K (ga K "Product") (ma K (ga K "Product") "__init__") := mkr_ok (T.c.fact 148)
theorem na_Product_left {K : PySem.W.Frag} {mg : Str → Option Value} (T : Tx fxL fnL K mg) : NoAttr K (ga K "Product") "left" := noat_ok (T.c.fact 149)
theorem na_Product_right {K : PySem.W.Frag} {mg : Str → Option Value} (T : Tx fxL fnL K mg) : NoAttr K (ga K "Product") "right" := noat_ok (T.c.fact 150)
theorem gm_Least {K : PySem.W.Frag} {mg : Str → Option Value} (T : Tx fxL fnL K mg) : mg "Least" = some (.ref (ga K "Least")) := x_glo T (T.c.fact 151)
theorem cl_Least {K : PySem.W.Frag} {mg : Str → Option Value} (T : Tx fxL fnL K mg) : Cls K (ga K "Least") := cls_ok (T.c.fact 152)
theorem mk_Least {K : PySem.W.Frag} {mg : Str → Option Value} (T : Tx fxL fnL K mg) : Mk K (ga K "Least") (ma K (ga K "Least") "__init__") := mkr_ok (T.c.fact 153)
theorem na_Least_left {K : PySem.W.Frag} {mg : Str → Option Value} (T : Tx fxL fnL K mg) : NoAttr K (ga K "Least") "left" := noat_ok (T.c.fact 154)
theorem na_Least_right {K : PySem.W.Frag} {mg : Str → Option Value} (T : Tx fxL fnL K mg) : NoAttr K (ga K "Least") "right" := noat_ok (T.c.fact 155)
theorem gm_Greatest {K : PySem.W.Frag} {mg : Str → Option Value} (T : Tx fxL fnL K mg) : mg "Greatest" = some (.ref (ga K "Greatest")) := x_glo T (T.c.fact 156)
theorem cl_Greatest {K : PySem.W.Frag} {mg : Str → Option Value} (T : Tx fxL fnL K mg) : Cls K (ga K "Greatest") := cls_ok (T.c.fact 157)
theorem mk_Greatest {K : PySem.W.Frag} {mg : Str → Option Value} (T : Tx fxL fnL K mg) : Mk K (ga K "Greatest") (ma K (ga K "Greatest") "__init__") := mkr_ok (T.c.fact 158)
theorem na_Greatest_left {K : PySem.W.Frag} {mg : Str → Option Value} (T : Tx fxL fnL K mg) : NoAttr K (ga K "Greatest") "left" := noat_ok (T.c.fact 159)
theorem na_Greatest_right {K : PySem.W.Frag} {mg : Str → Option Value} (T : Tx fxL fnL K mg) : NoAttr K (ga K "Greatest") "right" := noat_ok (T.c.fact 160)
theorem gm_Comparison {K : PySem.W.Frag} {mg : Str → Option Value} (T : Tx fxL fnL K mg) : mg "Comparison" = some (.ref (ga K "Comparison")) := x_glo T (T.c.fact 161)
theorem cl_Comparison {K : PySem.W.Frag} {mg : Str → Option Value} (T : Tx fxL fnL K mg) : Cls K (ga K "Comparison") := cls_ok (T.c.fact 162)
theorem mk_Comparison {K : PySem.W.Frag} {mg : Str → Option Value} (T : Tx fxL fnL K mg) : Mk K (ga K "Comparison") (ma K (ga K "Comparison") "__init__") := mkr_ok (T.c.fact 163)
theorem na_Comparison_left {K : PySem.W.Frag} {mg : Str → Option Value} (T : Tx fxL fnL K mg) : NoAttr K (ga K "Comparison") "left" := noat_ok (T.c.fact 164)
theorem na_Comparison_right {K : PySem.W.Frag} {mg : Str → Option Value} (T : Tx fxL fnL K mg) : NoAttr K (ga K "Comparison") "right" := noat_ok (T.c.fact 165)
theorem gm_Question {K : PySem.W.Frag} {mg : Str → Option Value} (T : Tx fxL fnL K mg) : mg "Question" = some (.ref (ga K "Question")) := x_glo T (T.c.fact 166)
theorem cl_Question {K : PySem.W.Frag} {mg : Str → Option Value} (T : Tx fxL fnL K mg) : Cls K (ga K "Question") := cls_ok (T.c.fact 167)
theorem mk_Question {K : PySem.W.Frag} {mg : Str → Option Value} (T : Tx fxL fnL K mg) : Mk K (ga K "Question") (ma K (ga K "Question") "__init__") := mkr_ok (T.c.fact 168)
theorem na_Question_tree {K : PySem.W.Frag} {mg : Str → Option Value} (T : Tx fxL fnL K mg) : NoAttr K (ga K "Question") "tree" := noat_ok (T.c.fact 169)
theorem na_Question_words {K : PySem.W.Frag} {mg : Str → Option Value} (T : Tx fxL fnL K mg) : NoAttr K (ga K "Question") "words" := noat_ok (T.c.fact 170)
theorem xm_BadNumber_BadNumber {K : PySem.W.Frag} {mg : Str → Option Value} (T : Tx fxL fnL K mg) : PySem.W.exmOne K (.ref (ga K "BadNumber")) (.ref (ga K "BadNumber")) = some true := exm_ok (T.c.fact 171)
theorem xm_BadNumber_CarryError {K : PySem.W.Frag} {mg : Str → Option Value} (T : Tx fxL fnL K mg) : PySem.W.exmOne K (.ref (ga K "BadNumber")) (.ref (ga K "CarryError")) = some true := exm_ok (T.c.fact 172)
theorem xi_BadNumber_BadDeed {K : PySem.W.Frag} {mg : Str → Option Value} (T : Tx fxL fnL K mg) : PySem.W.kitOne K (.ref (ga K "BadNumber")) (.ref (ga K "BadDeed")) = some false := x_kit (T.c.fact 173)
theorem xi_BadNumber_BadNumber {K : PySem.W.Frag} {mg : Str → Option Value} (T : Tx fxL fnL K mg) : PySem.W.kitOne K (.ref (ga K "BadNumber")) (.ref (ga K "BadNumber")) = some true := x_kit (T.c.fact 174)
theorem xi_BadNumber_BadPlace {K : PySem.W.Frag} {mg : Str → Option Value} (T : Tx fxL fnL K mg) : PySem.W.kitOne K (.ref (ga K "BadNumber")) (.ref (ga K "BadPlace")) = some false := x_kit (T.c.fact 175)
theorem xi_BadNumber_BadQuestion {K : PySem.W.Frag} {mg : Str → Option Value} (T : Tx fxL fnL K mg) : PySem.W.kitOne K (.ref (ga K "BadNumber")) (.ref (ga K "BadQuestion")) = some false := x_kit (T.c.fact 176)
theorem xi_BadNumber_ValueError {K : PySem.W.Frag} {mg : Str → Option Value} (T : Tx fxL fnL K mg) : PySem.W.kitOne K (.ref (ga K "BadNumber")) (.type "ValueError") = some true := x_kit (T.c.fact 177)
theorem xm_BadQuestion_BadNumber {K : PySem.W.Frag} {mg : Str → Option Value} (T : Tx fxL fnL K mg) : PySem.W.exmOne K (.ref (ga K "BadQuestion")) (.ref (ga K "BadNumber")) = some false := exm_ok (T.c.fact 178)
theorem xm_BadQuestion_CarryError {K : PySem.W.Frag} {mg : Str → Option Value} (T : Tx fxL fnL K mg) : PySem.W.exmOne K (.ref (ga K "BadQuestion")) (.ref (ga K "CarryError")) = some true := exm_ok (T.c.fact 179)
theorem xi_BadQuestion_BadDeed {K : PySem.W.Frag} {mg : Str → Option Value} (T : Tx fxL fnL K mg) : PySem.W.kitOne K (.ref (ga K "BadQuestion")) (.ref (ga K "BadDeed")) = some false := x_kit (T.c.fact 180)
theorem xi_BadQuestion_BadNumber {K : PySem.W.Frag} {mg : Str → Option Value} (T : Tx fxL fnL K mg) : PySem.W.kitOne K (.ref (ga K "BadQuestion")) (.ref (ga K "BadNumber")) = some false := x_kit (T.c.fact 181)
theorem xi_BadQuestion_BadPlace {K : PySem.W.Frag} {mg : Str → Option Value} (T : Tx fxL fnL K mg) : PySem.W.kitOne K (.ref (ga K "BadQuestion")) (.ref (ga K "BadPlace")) = some false := x_kit (T.c.fact 182)
theorem xi_BadQuestion_BadQuestion {K : PySem.W.Frag} {mg : Str → Option Value} (T : Tx fxL fnL K mg) : PySem.W.kitOne K (.ref (ga K "BadQuestion")) (.ref (ga K "BadQuestion")) = some true := x_kit (T.c.fact 183)
theorem xi_BadQuestion_ValueError {K : PySem.W.Frag} {mg : Str → Option Value} (T : Tx fxL fnL K mg) : PySem.W.kitOne K (.ref (ga K "BadQuestion")) (.type "ValueError") = some true := x_kit (T.c.fact 184)
theorem xm_ZeroBottom_BadNumber {K : PySem.W.Frag} {mg : Str → Option Value} (T : Tx fxL fnL K mg) : PySem.W.exmOne K (.ref (ga K "ZeroBottom")) (.ref (ga K "BadNumber")) = some false := exm_ok (T.c.fact 185)
theorem xm_ZeroBottom_CarryError {K : PySem.W.Frag} {mg : Str → Option Value} (T : Tx fxL fnL K mg) : PySem.W.exmOne K (.ref (ga K "ZeroBottom")) (.ref (ga K "CarryError")) = some true := exm_ok (T.c.fact 186)
theorem xi_ZeroBottom_BadDeed {K : PySem.W.Frag} {mg : Str → Option Value} (T : Tx fxL fnL K mg) : PySem.W.kitOne K (.ref (ga K "ZeroBottom")) (.ref (ga K "BadDeed")) = some false := x_kit (T.c.fact 187)
theorem xi_ZeroBottom_BadNumber {K : PySem.W.Frag} {mg : Str → Option Value} (T : Tx fxL fnL K mg) : PySem.W.kitOne K (.ref (ga K "ZeroBottom")) (.ref (ga K "BadNumber")) = some false := x_kit (T.c.fact 188)
theorem xi_ZeroBottom_BadPlace {K : PySem.W.Frag} {mg : Str → Option Value} (T : Tx fxL fnL K mg) : PySem.W.kitOne K (.ref (ga K "ZeroBottom")) (.ref (ga K "BadPlace")) = some false := x_kit (T.c.fact 189)
theorem xi_ZeroBottom_BadQuestion {K : PySem.W.Frag} {mg : Str → Option Value} (T : Tx fxL fnL K mg) : PySem.W.kitOne K (.ref (ga K "ZeroBottom")) (.ref (ga K "BadQuestion")) = some false := x_kit (T.c.fact 190)
theorem xi_ZeroBottom_ValueError {K : PySem.W.Frag} {mg : Str → Option Value} (T : Tx fxL fnL K mg) : PySem.W.kitOne K (.ref (ga K "ZeroBottom")) (.type "ValueError") = some true := x_kit (T.c.fact 191)
theorem cx_DIGITS {K : PySem.W.Frag} {mg : Str → Option Value} (T : Tx fxL fnL K mg) : ∃ u, mg "DIGITS" = some u ∧ RelV (.str "0123456789") u := x_str T (T.c.fact 192)
theorem cx_LETTERS {K : PySem.W.Frag} {mg : Str → Option Value} (T : Tx fxL fnL K mg) : ∃ u, mg "LETTERS" = some u ∧ RelV (.str "abcdefghijklmnopqrstuvwxyz") u := x_str T (T.c.fact 193)
theorem cx_LONGEST_LABEL {K : PySem.W.Frag} {mg : Str → Option Value} (T : Tx fxL fnL K mg) : ∃ u, mg "LONGEST_LABEL" = some u ∧ RelV (.int 8) u := x_int T (T.c.fact 194)
theorem cx_MOST_DIGITS {K : PySem.W.Frag} {mg : Str → Option Value} (T : Tx fxL fnL K mg) : ∃ u, mg "MOST_DIGITS" = some u ∧ RelV (.int 2000) u := x_int T (T.c.fact 195)
theorem cx_MOST_CHARACTERS {K : PySem.W.Frag} {mg : Str → Option Value} (T : Tx fxL fnL K mg) : ∃ u, mg "MOST_CHARACTERS" = some u ∧ RelV (.int 2000) u := x_int T (T.c.fact 196)
theorem cx_FOR_BOTH_KINDS {K : PySem.W.Frag} {mg : Str → Option Value} (T : Tx fxL fnL K mg) : ∃ u, mg "FOR_BOTH_KINDS" = some u ∧ RelV (.ref (ga K "FOR_BOTH_KINDS")) u := x_ref T (T.c.fact 197)
theorem ct_FOR_BOTH_KINDS {K : PySem.W.Frag} {mg : Str → Option Value} (T : Tx fxL fnL K mg) (H : Hp) : SqT K H (ga K "FOR_BOTH_KINDS") (([.str "energy", .str "power", .str "pull"] : List Dv).map (Dv.v K)) := tupB_ok (T.c.fact 198) H
theorem cx_FOR_NETS_ONLY {K : PySem.W.Frag} {mg : Str → Option Value} (T : Tx fxL fnL K mg) : ∃ u, mg "FOR_NETS_ONLY" = some u ∧ RelV (.ref (ga K "FOR_NETS_ONLY")) u := x_ref T (T.c.fact 199)
theorem ct_FOR_NETS_ONLY {K : PySem.W.Frag} {mg : Str → Option Value} (T : Tx fxL fnL K mg) (H : Hp) : SqT K H (ga K "FOR_NETS_ONLY") (([.str "cut", .str "resistance", .str "forests"] : List Dv).map (Dv.v K)) := tupB_ok (T.c.fact 200) H
theorem cx_FOR_BOOKS_ONLY {K : PySem.W.Frag} {mg : Str → Option Value} (T : Tx fxL fnL K mg) : ∃ u, mg "FOR_BOOKS_ONLY" = some u ∧ RelV (.ref (ga K "FOR_BOOKS_ONLY")) u := x_ref T (T.c.fact 201)
theorem ct_FOR_BOOKS_ONLY {K : PySem.W.Frag} {mg : Str → Option Value} (T : Tx fxL fnL K mg) (H : Hp) : SqT K H (ga K "FOR_BOOKS_ONLY") (([.str "determinant", .str "cost"] : List Dv).map (Dv.v K)) := tupB_ok (T.c.fact 202) H
theorem cx_MOST_WORDS {K : PySem.W.Frag} {mg : Str → Option Value} (T : Tx fxL fnL K mg) : ∃ u, mg "MOST_WORDS" = some u ∧ RelV (.int 200) u := x_int T (T.c.fact 203)
theorem cx_MOST_DEPTH {K : PySem.W.Frag} {mg : Str → Option Value} (T : Tx fxL fnL K mg) : ∃ u, mg "MOST_DEPTH" = some u ∧ RelV (.int 12) u := x_int T (T.c.fact 204)
theorem z_ValueError {K : PySem.W.Frag} {mg : Str → Option Value} (T : Tx fxL fnL K mg) : mg "ValueError" = none := x_free T (T.c.fact 205)
theorem z_abs {K : PySem.W.Frag} {mg : Str → Option Value} (T : Tx fxL fnL K mg) : mg "abs" = none := x_free T (T.c.fact 206)
theorem z_all {K : PySem.W.Frag} {mg : Str → Option Value} (T : Tx fxL fnL K mg) : mg "all" = none := x_free T (T.c.fact 207)
theorem z_bool {K : PySem.W.Frag} {mg : Str → Option Value} (T : Tx fxL fnL K mg) : mg "bool" = none := x_free T (T.c.fact 208)
theorem z_classmethod {K : PySem.W.Frag} {mg : Str → Option Value} (T : Tx fxL fnL K mg) : mg "classmethod" = none := x_free T (T.c.fact 209)
theorem gm_gcd {K : PySem.W.Frag} {mg : Str → Option Value} (T : Tx fxL fnL K mg) : mg "gcd" = some (.builtin "math.gcd") := x_blt T (T.c.fact 210)
theorem z_int {K : PySem.W.Frag} {mg : Str → Option Value} (T : Tx fxL fnL K mg) : mg "int" = none := x_free T (T.c.fact 211)
theorem z_isinstance {K : PySem.W.Frag} {mg : Str → Option Value} (T : Tx fxL fnL K mg) : mg "isinstance" = none := x_free T (T.c.fact 212)
theorem z_len {K : PySem.W.Frag} {mg : Str → Option Value} (T : Tx fxL fnL K mg) : mg "len" = none := x_free T (T.c.fact 213)
theorem z_list {K : PySem.W.Frag} {mg : Str → Option Value} (T : Tx fxL fnL K mg) : mg "list" = none := x_free T (T.c.fact 214)
theorem z_min {K : PySem.W.Frag} {mg : Str → Option Value} (T : Tx fxL fnL K mg) : mg "min" = none := x_free T (T.c.fact 215)
theorem z_range {K : PySem.W.Frag} {mg : Str → Option Value} (T : Tx fxL fnL K mg) : mg "range" = none := x_free T (T.c.fact 216)
theorem z_str {K : PySem.W.Frag} {mg : Str → Option Value} (T : Tx fxL fnL K mg) : mg "str" = none := x_free T (T.c.fact 217)
theorem z_tuple {K : PySem.W.Frag} {mg : Str → Option Value} (T : Tx fxL fnL K mg) : mg "tuple" = none := x_free T (T.c.fact 218)
theorem nd_int {K : PySem.W.Frag} {mg : Str → Option Value} (T : Tx fxL fnL K mg) : PySem.W.nsIn K cStatics "sys.int_max_str_digits" = some none := PySem.W.KIL.noDig_ok (T.c.fact 219)
theorem F_BadNumber___init__ {K : PySem.W.Frag} {mg : Str → Option Value} (T : Tx fxL fnL K mg) : ∃ fd, FunD K "__init__" "BadNumber.__init__" (defArgs s_BadNumber___init__) (defBody s_BadNumber___init__) (defScope s_BadNumber___init__) (([] : List Dv).map (Dv.v K)) [] (atM "BadNumber" "__init__" K) fd := T.c.def_ 0 (d := d_BadNumber___init__)
theorem F_BadPlace___init__ {K : PySem.W.Frag} {mg : Str → Option Value} (T : Tx fxL fnL K mg) : ∃ fd, FunD K "__init__" "BadPlace.__init__" (defArgs s_BadPlace___init__) (defBody s_BadPlace___init__) (defScope s_BadPlace___init__) (([] : List Dv).map (Dv.v K)) [] (atM "BadPlace" "__init__" K) fd := T.c.def_ 1 (d := d_BadPlace___init__)
theorem F_BadDeed___init__ {K : PySem.W.Frag} {mg : Str → Option Value} (T : Tx fxL fnL K mg) : ∃ fd, FunD K "__init__" "BadDeed.__init__" (defArgs s_BadDeed___init__) (defBody s_BadDeed___init__) (defScope s_BadDeed___init__) (([] : List Dv).map (Dv.v K)) [] (atM "BadDeed" "__init__" K) fd := T.c.def_ 2 (d := d_BadDeed___init__)
theorem F_BadQuestion___init__ {K : PySem.W.Frag} {mg : Str → Option Value} (T : Tx fxL fnL K mg) : ∃ fd, FunD K "__init__" "BadQuestion.__init__" (defArgs s_BadQuestion___init__) (defBody s_BadQuestion___init__) (defScope s_BadQuestion___init__) (([] : List Dv).map (Dv.v K)) [] (atM "BadQuestion" "__init__" K) fd := T.c.def_ 3 (d := d_BadQuestion___init__)
theorem F_is_label {K : PySem.W.Frag} {mg : Str → Option Value} (T : Tx fxL fnL K mg) : ∃ fd, FunD K "is_label" "is_label" (defArgs s_is_label) (defBody s_is_label) (defScope s_is_label) (([] : List Dv).map (Dv.v K)) [] (atG "is_label" K) fd := T.c.def_ 4 (d := d_is_label)
theorem F_whole_of {K : PySem.W.Frag} {mg : Str → Option Value} (T : Tx fxL fnL K mg) : ∃ fd, FunD K "whole_of" "whole_of" (defArgs s_whole_of) (defBody s_whole_of) (defScope s_whole_of) (([] : List Dv).map (Dv.v K)) [] (atG "whole_of" K) fd := T.c.def_ 5 (d := d_whole_of)
theorem F_Ratio___init__ {K : PySem.W.Frag} {mg : Str → Option Value} (T : Tx fxL fnL K mg) : ∃ fd, FunD K "__init__" "Ratio.__init__" (defArgs s_Ratio___init__) (defBody s_Ratio___init__) (defScope s_Ratio___init__) (([.int 1] : List Dv).map (Dv.v K)) [] (atM "Ratio" "__init__" K) fd := T.c.def_ 6 (d := d_Ratio___init__)
theorem F_Ratio_read {K : PySem.W.Frag} {mg : Str → Option Value} (T : Tx fxL fnL K mg) : ∃ fd, FunD K "read" "Ratio.read" (defArgs s_Ratio_read) (defBody s_Ratio_read) (defScope s_Ratio_read) (([] : List Dv).map (Dv.v K)) [] (atW "Ratio" "classmethod" "read" K) fd := T.c.def_ 7 (d := d_Ratio_read)
theorem F_words_of {K : PySem.W.Frag} {mg : Str → Option Value} (T : Tx fxL fnL K mg) : ∃ fd, FunD K "words_of" "words_of" (defArgs s_words_of) (defBody s_words_of) (defScope s_words_of) (([] : List Dv).map (Dv.v K)) [] (atG "words_of" K) fd := T.c.def_ 8 (d := d_words_of)
theorem F_is_node {K : PySem.W.Frag} {mg : Str → Option Value} (T : Tx fxL fnL K mg) : ∃ fd, FunD K "is_node" "is_node" (defArgs s_is_node) (defBody s_is_node) (defScope s_is_node) (([] : List Dv).map (Dv.v K)) [] (atG "is_node" K) fd := T.c.def_ 9 (d := d_is_node)
theorem F_is_ratio_text {K : PySem.W.Frag} {mg : Str → Option Value} (T : Tx fxL fnL K mg) : ∃ fd, FunD K "is_ratio_text" "is_ratio_text" (defArgs s_is_ratio_text) (defBody s_is_ratio_text) (defScope s_is_ratio_text) (([] : List Dv).map (Dv.v K)) [] (atG "is_ratio_text" K) fd := T.c.def_ 10 (d := d_is_ratio_text)
theorem F_is_measure {K : PySem.W.Frag} {mg : Str → Option Value} (T : Tx fxL fnL K mg) : ∃ fd, FunD K "is_measure" "is_measure" (defArgs s_is_measure) (defBody s_is_measure) (defScope s_is_measure) (([] : List Dv).map (Dv.v K)) [] (atG "is_measure" K) fd := T.c.def_ 11 (d := d_is_measure)
theorem F_Number___init__ {K : PySem.W.Frag} {mg : Str → Option Value} (T : Tx fxL fnL K mg) : ∃ fd, FunD K "__init__" "Number.__init__" (defArgs s_Number___init__) (defBody s_Number___init__) (defScope s_Number___init__) (([] : List Dv).map (Dv.v K)) [] (atM "Number" "__init__" K) fd := T.c.def_ 12 (d := d_Number___init__)
theorem F_Measure___init__ {K : PySem.W.Frag} {mg : Str → Option Value} (T : Tx fxL fnL K mg) : ∃ fd, FunD K "__init__" "Measure.__init__" (defArgs s_Measure___init__) (defBody s_Measure___init__) (defScope s_Measure___init__) (([] : List Dv).map (Dv.v K)) [] (atM "Measure" "__init__" K) fd := T.c.def_ 13 (d := d_Measure___init__)
theorem F_Sum___init__ {K : PySem.W.Frag} {mg : Str → Option Value} (T : Tx fxL fnL K mg) : ∃ fd, FunD K "__init__" "Sum.__init__" (defArgs s_Sum___init__) (defBody s_Sum___init__) (defScope s_Sum___init__) (([] : List Dv).map (Dv.v K)) [] (atM "Sum" "__init__" K) fd := T.c.def_ 14 (d := d_Sum___init__)
theorem F_Difference___init__ {K : PySem.W.Frag} {mg : Str → Option Value} (T : Tx fxL fnL K mg) : ∃ fd, FunD K "__init__" "Difference.__init__" (defArgs s_Difference___init__) (defBody s_Difference___init__) (defScope s_Difference___init__) (([] : List Dv).map (Dv.v K)) [] (atM "Difference" "__init__" K) fd := T.c.def_ 15 (d := d_Difference___init__)
theorem F_Product___init__ {K : PySem.W.Frag} {mg : Str → Option Value} (T : Tx fxL fnL K mg) : ∃ fd, FunD K "__init__" "Product.__init__" (defArgs s_Product___init__) (defBody s_Product___init__) (defScope s_Product___init__) (([] : List Dv).map (Dv.v K)) [] (atM "Product" "__init__" K) fd := T.c.def_ 16 (d := d_Product___init__)
theorem F_Least___init__ {K : PySem.W.Frag} {mg : Str → Option Value} (T : Tx fxL fnL K mg) : ∃ fd, FunD K "__init__" "Least.__init__" (defArgs s_Least___init__) (defBody s_Least___init__) (defScope s_Least___init__) (([] : List Dv).map (Dv.v K)) [] (atM "Least" "__init__" K) fd := T.c.def_ 17 (d := d_Least___init__)
theorem F_Greatest___init__ {K : PySem.W.Frag} {mg : Str → Option Value} (T : Tx fxL fnL K mg) : ∃ fd, FunD K "__init__" "Greatest.__init__" (defArgs s_Greatest___init__) (defBody s_Greatest___init__) (defScope s_Greatest___init__) (([] : List Dv).map (Dv.v K)) [] (atM "Greatest" "__init__" K) fd := T.c.def_ 18 (d := d_Greatest___init__)
theorem F_Comparison___init__ {K : PySem.W.Frag} {mg : Str → Option Value} (T : Tx fxL fnL K mg) : ∃ fd, FunD K "__init__" "Comparison.__init__" (defArgs s_Comparison___init__) (defBody s_Comparison___init__) (defScope s_Comparison___init__) (([] : List Dv).map (Dv.v K)) [] (atM "Comparison" "__init__" K) fd := T.c.def_ 19 (d := d_Comparison___init__)
theorem F__word {K : PySem.W.Frag} {mg : Str → Option Value} (T : Tx fxL fnL K mg) : ∃ fd, FunD K "_word" "_word" (defArgs s__word) (defBody s__word) (defScope s__word) (([] : List Dv).map (Dv.v K)) [] (atG "_word" K) fd := T.c.def_ 20 (d := d__word)
theorem F__after {K : PySem.W.Frag} {mg : Str → Option Value} (T : Tx fxL fnL K mg) : ∃ fd, FunD K "_after" "_after" (defArgs s__after) (defBody s__after) (defScope s__after) (([] : List Dv).map (Dv.v K)) [] (atG "_after" K) fd := T.c.def_ 21 (d := d__after)
theorem F__after_open {K : PySem.W.Frag} {mg : Str → Option Value} (T : Tx fxL fnL K mg) : ∃ fd, FunD K "_after_open" "_after_open" (defArgs s__after_open) (defBody s__after_open) (defScope s__after_open) (([] : List Dv).map (Dv.v K)) [] (atG "_after_open" K) fd := T.c.def_ 22 (d := d__after_open)
theorem F__read_label {K : PySem.W.Frag} {mg : Str → Option Value} (T : Tx fxL fnL K mg) : ∃ fd, FunD K "_read_label" "_read_label" (defArgs s__read_label) (defBody s__read_label) (defScope s__read_label) (([] : List Dv).map (Dv.v K)) [] (atG "_read_label" K) fd := T.c.def_ 23 (d := d__read_label)
theorem F__read_node {K : PySem.W.Frag} {mg : Str → Option Value} (T : Tx fxL fnL K mg) : ∃ fd, FunD K "_read_node" "_read_node" (defArgs s__read_node) (defBody s__read_node) (defScope s__read_node) (([] : List Dv).map (Dv.v K)) [] (atG "_read_node" K) fd := T.c.def_ 24 (d := d__read_node)
theorem F__read_number {K : PySem.W.Frag} {mg : Str → Option Value} (T : Tx fxL fnL K mg) : ∃ fd, FunD K "_read_number" "_read_number" (defArgs s__read_number) (defBody s__read_number) (defScope s__read_number) (([] : List Dv).map (Dv.v K)) [] (atG "_read_number" K) fd := T.c.def_ 25 (d := d__read_number)
theorem F__read_numbers {K : PySem.W.Frag} {mg : Str → Option Value} (T : Tx fxL fnL K mg) : ∃ fd, FunD K "_read_numbers" "_read_numbers" (defArgs s__read_numbers) (defBody s__read_numbers) (defScope s__read_numbers) (([] : List Dv).map (Dv.v K)) [] (atG "_read_numbers" K) fd := T.c.def_ 26 (d := d__read_numbers)
theorem F__read_nodes {K : PySem.W.Frag} {mg : Str → Option Value} (T : Tx fxL fnL K mg) : ∃ fd, FunD K "_read_nodes" "_read_nodes" (defArgs s__read_nodes) (defBody s__read_nodes) (defScope s__read_nodes) (([] : List Dv).map (Dv.v K)) [] (atG "_read_nodes" K) fd := T.c.def_ 27 (d := d__read_nodes)
theorem F__read_two_nodes {K : PySem.W.Frag} {mg : Str → Option Value} (T : Tx fxL fnL K mg) : ∃ fd, FunD K "_read_two_nodes" "_read_two_nodes" (defArgs s__read_two_nodes) (defBody s__read_two_nodes) (defScope s__read_two_nodes) (([] : List Dv).map (Dv.v K)) [] (atG "_read_two_nodes" K) fd := T.c.def_ 28 (d := d__read_two_nodes)
theorem F__read_things {K : PySem.W.Frag} {mg : Str → Option Value} (T : Tx fxL fnL K mg) : ∃ fd, FunD K "_read_things" "_read_things" (defArgs s__read_things) (defBody s__read_things) (defScope s__read_things) (([] : List Dv).map (Dv.v K)) [] (atG "_read_things" K) fd := T.c.def_ 29 (d := d__read_things)
theorem F__read_measure {K : PySem.W.Frag} {mg : Str → Option Value} (T : Tx fxL fnL K mg) : ∃ fd, FunD K "_read_measure" "_read_measure" (defArgs s__read_measure) (defBody s__read_measure) (defScope s__read_measure) (([] : List Dv).map (Dv.v K)) [] (atG "_read_measure" K) fd := T.c.def_ 30 (d := d__read_measure)
theorem F__read_choice {K : PySem.W.Frag} {mg : Str → Option Value} (T : Tx fxL fnL K mg) : ∃ fd, FunD K "_read_choice" "_read_choice" (defArgs s__read_choice) (defBody s__read_choice) (defScope s__read_choice) (([] : List Dv).map (Dv.v K)) [] (atG "_read_choice" K) fd := T.c.def_ 31 (d := d__read_choice)
theorem F__read_part {K : PySem.W.Frag} {mg : Str → Option Value} (T : Tx fxL fnL K mg) : ∃ fd, FunD K "_read_part" "_read_part" (defArgs s__read_part) (defBody s__read_part) (defScope s__read_part) (([] : List Dv).map (Dv.v K)) [] (atG "_read_part" K) fd := T.c.def_ 32 (d := d__read_part)
theorem F__read_term {K : PySem.W.Frag} {mg : Str → Option Value} (T : Tx fxL fnL K mg) : ∃ fd, FunD K "_read_term" "_read_term" (defArgs s__read_term) (defBody s__read_term) (defScope s__read_term) (([] : List Dv).map (Dv.v K)) [] (atG "_read_term" K) fd := T.c.def_ 33 (d := d__read_term)
theorem F__read_value {K : PySem.W.Frag} {mg : Str → Option Value} (T : Tx fxL fnL K mg) : ∃ fd, FunD K "_read_value" "_read_value" (defArgs s__read_value) (defBody s__read_value) (defScope s__read_value) (([] : List Dv).map (Dv.v K)) [] (atG "_read_value" K) fd := T.c.def_ 34 (d := d__read_value)
theorem F_read_words {K : PySem.W.Frag} {mg : Str → Option Value} (T : Tx fxL fnL K mg) : ∃ fd, FunD K "read_words" "read_words" (defArgs s_read_words) (defBody s_read_words) (defScope s_read_words) (([] : List Dv).map (Dv.v K)) [] (atG "read_words" K) fd := T.c.def_ 35 (d := d_read_words)
theorem F_Question___init__ {K : PySem.W.Frag} {mg : Str → Option Value} (T : Tx fxL fnL K mg) : ∃ fd, FunD K "__init__" "Question.__init__" (defArgs s_Question___init__) (defBody s_Question___init__) (defScope s_Question___init__) (([] : List Dv).map (Dv.v K)) [] (atM "Question" "__init__" K) fd := T.c.def_ 36 (d := d_Question___init__)
theorem F__law_pot {K : PySem.W.Frag} {mg : Str → Option Value} (T : Tx fxL fnL K mg) : ∃ fd, FunD K "_law_pot" "_law_pot" (defArgs s__law_pot) (defBody s__law_pot) (defScope s__law_pot) (([] : List Dv).map (Dv.v K)) [] (atG "_law_pot" K) fd := T.c.def_ 37 (d := d__law_pot)
theorem F__law_digit {K : PySem.W.Frag} {mg : Str → Option Value} (T : Tx fxL fnL K mg) : ∃ fd, FunD K "_law_digit" "_law_digit" (defArgs s__law_digit) (defBody s__law_digit) (defScope s__law_digit) (([] : List Dv).map (Dv.v K)) [] (atG "_law_digit" K) fd := T.c.def_ 38 (d := d__law_digit)
theorem F__law_common {K : PySem.W.Frag} {mg : Str → Option Value} (T : Tx fxL fnL K mg) : ∃ fd, FunD K "_law_common" "_law_common" (defArgs s__law_common) (defBody s__law_common) (defScope s__law_common) (([] : List Dv).map (Dv.v K)) [] (atG "_law_common" K) fd := T.c.def_ 39 (d := d__law_common)
theorem F__law_name {K : PySem.W.Frag} {mg : Str → Option Value} (T : Tx fxL fnL K mg) : ∃ fd, FunD K "_law_name" "_law_name" (defArgs s__law_name) (defBody s__law_name) (defScope s__law_name) (([] : List Dv).map (Dv.v K)) [] (atG "_law_name" K) fd := T.c.def_ 40 (d := d__law_name)
theorem F__law_number {K : PySem.W.Frag} {mg : Str → Option Value} (T : Tx fxL fnL K mg) : ∃ fd, FunD K "_law_number" "_law_number" (defArgs s__law_number) (defBody s__law_number) (defScope s__law_number) (([] : List Dv).map (Dv.v K)) [] (atG "_law_number" K) fd := T.c.def_ 41 (d := d__law_number)
theorem F__law_fraction {K : PySem.W.Frag} {mg : Str → Option Value} (T : Tx fxL fnL K mg) : ∃ fd, FunD K "_law_fraction" "_law_fraction" (defArgs s__law_fraction) (defBody s__law_fraction) (defScope s__law_fraction) (([] : List Dv).map (Dv.v K)) [] (atG "_law_fraction" K) fd := T.c.def_ 42 (d := d__law_fraction)
theorem F__law_part {K : PySem.W.Frag} {mg : Str → Option Value} (T : Tx fxL fnL K mg) : ∃ fd, FunD K "_law_part" "_law_part" (defArgs s__law_part) (defBody s__law_part) (defScope s__law_part) (([] : List Dv).map (Dv.v K)) [] (atG "_law_part" K) fd := T.c.def_ 43 (d := d__law_part)
theorem F__law_opened {K : PySem.W.Frag} {mg : Str → Option Value} (T : Tx fxL fnL K mg) : ∃ fd, FunD K "_law_opened" "_law_opened" (defArgs s__law_opened) (defBody s__law_opened) (defScope s__law_opened) (([] : List Dv).map (Dv.v K)) [] (atG "_law_opened" K) fd := T.c.def_ 44 (d := d__law_opened)
theorem F__law_closed {K : PySem.W.Frag} {mg : Str → Option Value} (T : Tx fxL fnL K mg) : ∃ fd, FunD K "_law_closed" "_law_closed" (defArgs s__law_closed) (defBody s__law_closed) (defScope s__law_closed) (([] : List Dv).map (Dv.v K)) [] (atG "_law_closed" K) fd := T.c.def_ 45 (d := d__law_closed)
theorem F__law_question {K : PySem.W.Frag} {mg : Str → Option Value} (T : Tx fxL fnL K mg) : ∃ fd, FunD K "_law_question" "_law_question" (defArgs s__law_question) (defBody s__law_question) (defScope s__law_question) (([] : List Dv).map (Dv.v K)) [] (atG "_law_question" K) fd := T.c.def_ 46 (d := d__law_question)
theorem F__law_is_digits {K : PySem.W.Frag} {mg : Str → Option Value} (T : Tx fxL fnL K mg) : ∃ fd, FunD K "_law_is_digits" "_law_is_digits" (defArgs s__law_is_digits) (defBody s__law_is_digits) (defScope s__law_is_digits) (([] : List Dv).map (Dv.v K)) [] (atG "_law_is_digits" K) fd := T.c.def_ 47 (d := d__law_is_digits)
theorem F__law_is_whole {K : PySem.W.Frag} {mg : Str → Option Value} (T : Tx fxL fnL K mg) : ∃ fd, FunD K "_law_is_whole" "_law_is_whole" (defArgs s__law_is_whole) (defBody s__law_is_whole) (defScope s__law_is_whole) (([] : List Dv).map (Dv.v K)) [] (atG "_law_is_whole" K) fd := T.c.def_ 48 (d := d__law_is_whole)
theorem F__law_is_fraction {K : PySem.W.Frag} {mg : Str → Option Value} (T : Tx fxL fnL K mg) : ∃ fd, FunD K "_law_is_fraction" "_law_is_fraction" (defArgs s__law_is_fraction) (defBody s__law_is_fraction) (defScope s__law_is_fraction) (([] : List Dv).map (Dv.v K)) [] (atG "_law_is_fraction" K) fd := T.c.def_ 49 (d := d__law_is_fraction)
theorem F__law_is_label {K : PySem.W.Frag} {mg : Str → Option Value} (T : Tx fxL fnL K mg) : ∃ fd, FunD K "_law_is_label" "_law_is_label" (defArgs s__law_is_label) (defBody s__law_is_label) (defScope s__law_is_label) (([] : List Dv).map (Dv.v K)) [] (atG "_law_is_label" K) fd := T.c.def_ 50 (d := d__law_is_label)
theorem F__law_behind {K : PySem.W.Frag} {mg : Str → Option Value} (T : Tx fxL fnL K mg) : ∃ fd, FunD K "_law_behind" "_law_behind" (defArgs s__law_behind) (defBody s__law_behind) (defScope s__law_behind) (([] : List Dv).map (Dv.v K)) [] (atG "_law_behind" K) fd := T.c.def_ 51 (d := d__law_behind)
theorem F__law_stands {K : PySem.W.Frag} {mg : Str → Option Value} (T : Tx fxL fnL K mg) : ∃ fd, FunD K "_law_stands" "_law_stands" (defArgs s__law_stands) (defBody s__law_stands) (defScope s__law_stands) (([] : List Dv).map (Dv.v K)) [] (atG "_law_stands" K) fd := T.c.def_ 52 (d := d__law_stands)
theorem F__law_wrong_at {K : PySem.W.Frag} {mg : Str → Option Value} (T : Tx fxL fnL K mg) : ∃ fd, FunD K "_law_wrong_at" "_law_wrong_at" (defArgs s__law_wrong_at) (defBody s__law_wrong_at) (defScope s__law_wrong_at) (([] : List Dv).map (Dv.v K)) [] (atG "_law_wrong_at" K) fd := T.c.def_ 53 (d := d__law_wrong_at)
theorem F__law_refused {K : PySem.W.Frag} {mg : Str → Option Value} (T : Tx fxL fnL K mg) : ∃ fd, FunD K "_law_refused" "_law_refused" (defArgs s__law_refused) (defBody s__law_refused) (defScope s__law_refused) (([] : List Dv).map (Dv.v K)) [] (atG "_law_refused" K) fd := T.c.def_ 54 (d := d__law_refused)
theorem F__law_let {K : PySem.W.Frag} {mg : Str → Option Value} (T : Tx fxL fnL K mg) : ∃ fd, FunD K "_law_let" "_law_let" (defArgs s__law_let) (defBody s__law_let) (defScope s__law_let) (([] : List Dv).map (Dv.v K)) [] (atG "_law_let" K) fd := T.c.def_ 55 (d := d__law_let)
theorem F__law_asked {K : PySem.W.Frag} {mg : Str → Option Value} (T : Tx fxL fnL K mg) : ∃ fd, FunD K "_law_asked" "_law_asked" (defArgs s__law_asked) (defBody s__law_asked) (defScope s__law_asked) (([] : List Dv).map (Dv.v K)) [] (atG "_law_asked" K) fd := T.c.def_ 56 (d := d__law_asked)
theorem F__law_spare {K : PySem.W.Frag} {mg : Str → Option Value} (T : Tx fxL fnL K mg) : ∃ fd, FunD K "_law_spare" "_law_spare" (defArgs s__law_spare) (defBody s__law_spare) (defScope s__law_spare) (([] : List Dv).map (Dv.v K)) [] (atG "_law_spare" K) fd := T.c.def_ 57 (d := d__law_spare)
theorem F__law_changed {K : PySem.W.Frag} {mg : Str → Option Value} (T : Tx fxL fnL K mg) : ∃ fd, FunD K "_law_changed" "_law_changed" (defArgs s__law_changed) (defBody s__law_changed) (defScope s__law_changed) (([] : List Dv).map (Dv.v K)) [] (atG "_law_changed" K) fd := T.c.def_ 58 (d := d__law_changed)
theorem F__law_chain {K : PySem.W.Frag} {mg : Str → Option Value} (T : Tx fxL fnL K mg) : ∃ fd, FunD K "_law_chain" "_law_chain" (defArgs s__law_chain) (defBody s__law_chain) (defScope s__law_chain) (([] : List Dv).map (Dv.v K)) [] (atG "_law_chain" K) fd := T.c.def_ 59 (d := d__law_chain)
theorem F__law_deep {K : PySem.W.Frag} {mg : Str → Option Value} (T : Tx fxL fnL K mg) : ∃ fd, FunD K "_law_deep" "_law_deep" (defArgs s__law_deep) (defBody s__law_deep) (defScope s__law_deep) (([] : List Dv).map (Dv.v K)) [] (atG "_law_deep" K) fd := T.c.def_ 60 (d := d__law_deep)
theorem F__law_long {K : PySem.W.Frag} {mg : Str → Option Value} (T : Tx fxL fnL K mg) : ∃ fd, FunD K "_law_long" "_law_long" (defArgs s__law_long) (defBody s__law_long) (defScope s__law_long) (([] : List Dv).map (Dv.v K)) [] (atG "_law_long" K) fd := T.c.def_ 61 (d := d__law_long)
theorem F__law_many_digits {K : PySem.W.Frag} {mg : Str → Option Value} (T : Tx fxL fnL K mg) : ∃ fd, FunD K "_law_many_digits" "_law_many_digits" (defArgs s__law_many_digits) (defBody s__law_many_digits) (defScope s__law_many_digits) (([] : List Dv).map (Dv.v K)) [] (atG "_law_many_digits" K) fd := T.c.def_ 62 (d := d__law_many_digits)
theorem F_law {K : PySem.W.Frag} {mg : Str → Option Value} (T : Tx fxL fnL K mg) : ∃ fd, FunD K "law" "law" (defArgs s_law) (defBody s_law) (defScope s_law) (([] : List Dv).map (Dv.v K)) [] (atG "law" K) fd := T.c.def_ 63 (d := d_law)
end My
namespace My
open PySem PySem.Spec PyProof.Rows L2 He He5 Go
def names : List Str := PySem.Program.boundNames PySem.Challenge.pw_fewcarry_k86_question_forms |>.filter (fun x => x != "law")
def fsN_0 : List Str := ["is_label", "whole_of", "words_of", "is_node", "is_ratio_text", "is_measure", "_word", "_after", "_after_open", "_read_label", "_read_node", "_read_number", "_read_numbers", "_read_nodes", "_read_two_nodes", "_read_things", "_read_measure", "_read_choice", "_read_part", "_read_term", "_read_value", "read_words", "_law_pot", "_law_digit", "_law_common", "_law_name", "_law_number", "_law_fraction", "_law_part", "_law_opened"]
def fsN_1 : List Str := ["_law_closed", "_law_question", "_law_is_digits", "_law_is_whole", "_law_is_fraction", "_law_is_label", "_law_behind", "_law_stands", "_law_wrong_at", "_law_refused", "_law_let", "_law_asked", "_law_spare", "_law_changed", "_law_chain", "_law_deep", "_law_long", "_law_many_digits", "law"]
def fsN : List Str := fsN_0 ++ fsN_1
def csN_0 : List Str := ["CarryError", "ZeroBottom", "BadNumber", "BadPlace", "BadDeed", "BadQuestion", "Ratio", "Number", "Measure", "Sum", "Difference", "Product", "Least", "Greatest", "Comparison", "Question"]
def csN : List Str := csN_0
def osN_0 : List Str := ["FOR_BOTH_KINDS", "FOR_NETS_ONLY", "FOR_BOOKS_ONLY"]
def osN : List Str := osN_0
abbrev R : PySem.W.OpenRow := PySem.W.OpenLaw.row PySem.Challenge.rw_fewcarry_k86_question_forms
abbrev qv : Program := PySem.W.view R.prog [0, 86]
def adr (g : Addr → Option Obj) : List Addr := asL fsN csN osN g
abbrev hk : PySem.W.Hook := hookM adr fxL fnL
def ob (s : PySem.W.SharedT) : He.AlD := obsMG adr fxL fnL (HandSHeadRun.getT s)
theorem ob_eq (s : PySem.W.SharedT) : ob s = hk.obs s.abs := obsMG_eq (HandSHeadRun.getT_eq s)
@[irreducible] noncomputable def wh (w : World) : Option (Shared × PySem.W.SharedT) := HandSHeadRun.wholeF (fun p => HandSHeadRun.stepQ (HandSHeadRun.denQ HandSHeadRun.tabQ) p w) HandSHeadRun.fenceQ 12000 R.prog
def kk (x : Shared × PySem.W.SharedT) : PySem.W.Frag := frG (HandSHeadRun.getT x.2) (adr (HandSHeadRun.getT x.2))
theorem run_a (w : World) : (wh w).map (fun x => (HandSHeadRun.looksF R.prog x.1.heap x.2.abs, HandSHeadRun.seenQ qv names (importedModules R.prog.main.body) (fun s => PySem.W.xlAt qv [] s && PySem.W.recOk R.toRowW.records s) x.2.abs)) = some (true, PySem.W.openGood qv names) := by
  kernel_rfl
def fy_0 : List Fx := fx_0 ++ fx_1 ++ fx_2 ++ fx_3
theorem run_b0 (w : World) : (wh w).map (fun x => fy_0.all fun f => f (kk x)) = some true := by
  kernel_rfl
def fy_1 : List Fx := fx_4 ++ fx_5 ++ fx_6 ++ fx_7
theorem run_b1 (w : World) : (wh w).map (fun x => fy_1.all fun f => f (kk x)) = some true := by
  kernel_rfl
theorem run_c (w : World) : (wh w).map (fun x => (fnL.all fun d => d.ok (kk x), fnL.map fun d => fnA (kk x) (d.at_ (kk x)))) = some (valA fnL) := by
  kernel_rfl
theorem fx_eq : fxL = (fy_0 ++ fy_1) := by rfl
theorem run (w : World) : HandSHeadRun.RunEqI R qv hk ob 12000 names w := by
  have h : (wh w).map (fun x => fxL.all fun f => f (kk x)) = some true := by
    rw [fx_eq]
    exact map_all (run_b0 w) (run_b1 w)
  have z := map_three (run_a w) (map_obs h (run_c w))
  unfold HandSHeadRun.RunEqI
  unfold wh at z
  exact z
end My
/-! texts of whole numbers -/
namespace NumT
open PySem PySem.NumText L2 TL
def isD (c : Nat) : Bool := decide (48 ≤ c) && decide (c ≤ 57)
def natOf (l : List Nat) : Nat := l.foldl (fun a c => a * 10 + (c - 48)) 0
def digL : List Nat := ("0123456789" : Str).cps.toList
theorem digL_eq : digL = [48, 49, 50, 51, 52, 53, 54, 55, 56, 57] := by decide +kernel
theorem mem_dig (c : Nat) : decide (c ∈ digL) = isD c := by
  rw [digL_eq]
  unfold isD
  rw [← Bool.decide_and]
  apply decide_eq_decide.mpr
  simp only [List.mem_cons, List.not_mem_nil, or_false]
  omega
theorem isD_iff {c : Nat} : isD c = true ↔ 48 ≤ c ∧ c ≤ 57 := by
  unfold isD
  rw [← Bool.decide_and, decide_eq_true_eq]
theorem digit_of {c : Nat} (h : isD c = true) : digit? c = some (c - 48) := by
  have := isD_iff.mp h
  unfold digit?
  rw [if_pos (by simp; omega)]
theorem step_of {c : Nat} (h : isD c = true) (p : Array Nat × Bool) : NumText.step 10 p c = some (p.1.push (c - 48), true) := by
  have q := isD_iff.mp h
  unfold NumText.step
  rw [if_neg (by simp; omega), digit_of h]
  show (if c - 48 < 10 then some (p.1.push (c - 48), true) else none) = _
  rw [if_pos (by omega)]
theorem foldM_of : ∀ (l : List Nat) (p : Array Nat × Bool), l.all isD = true → l.foldlM (NumText.step 10) p = some (p.1 ++ (l.map (· - 48)).toArray, p.2 || !l.isEmpty)
  | [], p, _ => by simp
  | c :: l, p, h => by
    rw [List.all_cons, Bool.and_eq_true] at h
    rw [List.foldlM_cons, step_of h.1]
    show (l.foldlM (NumText.step 10) (p.1.push (c - 48), true)) = _
    rw [foldM_of l _ h.2]
    simp
theorem digits_of {l : List Nat} (h : l.all isD = true) (hn : l ≠ []) : digits? 10 l = some (l.map (· - 48)).toArray := by
  unfold digits?
  rw [foldM_of l _ h]
  cases l with
  | nil => exact absurd rfl hn
  | cons c l => simp
theorem not_blank {c : Nat} (h : isD c = true) : blank c = false := by
  have := isD_iff.mp h
  unfold blank
  simp
  omega
theorem dropW_of : ∀ {l : List Nat}, l.all isD = true → l.dropWhile blank = l
  | [], _ => rfl
  | c :: l, h => by
    rw [List.all_cons, Bool.and_eq_true] at h
    rw [List.dropWhile_cons, not_blank h.1] <;> rfl
theorem sign_of : ∀ {l : List Nat}, l.all isD = true → sign l = (false, l)
  | [], _ => rfl
  | c :: l, h => by
    rw [List.all_cons, Bool.and_eq_true] at h
    have := isD_iff.mp h.1
    unfold sign
    split
    · rename_i heq
      injection heq with e _
      omega
    · rename_i heq
      injection heq with e _
      omega
    · rfl
theorem all_rev {l : List Nat} (h : l.all isD = true) : l.reverse.all isD = true := by rw [List.all_reverse]; exact h
theorem core_of {l : List Nat} (h : l.all isD = true) : core l = l := by
  unfold core
  rw [dropW_of h, sign_of h, dropW_of (all_rev h), List.reverse_reverse]
theorem core_neg {l : List Nat} (h : l.all isD = true) : core (45 :: l) = l := by
  unfold core
  have e : (45 :: l).dropWhile blank = 45 :: l := by rw [List.dropWhile_cons] <;> rfl
  rw [e]
  show ((l.reverse).dropWhile blank).reverse = l
  rw [dropW_of (all_rev h), List.reverse_reverse]
theorem fold_eq : ∀ (l : List Nat) (a : Nat), (l.map (· - 48)).foldl (fun acc d => acc * 10 + d) a = l.foldl (fun a c => a * 10 + (c - 48)) a
  | [], _ => rfl
  | c :: l, a => fold_eq l _
theorem small_of {l : List Nat} (h : l.all isD = true) : l.all (· < 128) = true := by
  rw [List.all_eq_true] at h ⊢
  intro c hc
  have := isD_iff.mp (h c hc)
  simp
  omega
theorem noz_of : ∀ {l : List Nat}, (∀ c ∈ l, c ≠ 0) → l.takeWhile (· != 0) = l
  | [], _ => rfl
  | c :: l, h => by
    rw [List.takeWhile_cons]
    have : (c != 0) = true := by simpa using h c (List.mem_cons_self ..)
    rw [if_pos this, noz_of fun d hd => h d (List.mem_cons_of_mem _ hd)]
theorem textOf {x : Str} (h : (tl x).all (· < 128) = true) : numTextOf x = tl x := by
  show (if x.cps.all (· < 128) then _ else _) = _
  rw [if_pos (by rw [← Array.all_toList]; exact h)]
theorem seenOf {x : Str} (h : (tl x).all (· < 128) = true) (h0 : ∀ c ∈ tl x, c ≠ 0) : numSeenOf x = tl x := by
  show (numTextOf x).takeWhile (· != 0) = _
  rw [textOf h, noz_of h0]
/-- the number that a text of digits is -/
theorem int_pos {x : Str} (h : (tl x).all isD = true) (hn : tl x ≠ []) (hl : (tl x).length ≤ 4300) : intText? x = some (natOf (tl x) : Int) ∧ (numSeenOf x).length = x.length := by
  have e1 := small_of h
  have e2 : ∀ c ∈ tl x, c ≠ 0 := fun c hc => by
    have := isD_iff.mp (List.all_eq_true.mp h c hc)
    omega
  have s := seenOf e1 e2
  refine ⟨?_, by rw [s, len_tl]⟩
  unfold intText?
  rw [s, textOf e1, if_pos (by simp), core_of h, digits_of h hn]
  show (if (List.map (fun x => x - 48) (tl x)).toArray.size ≤ 4300 then _ else _) = _
  rw [if_pos (by simpa using hl), dropW_of h, sign_of h]
  unfold worth natOf
  rw [if_neg (show ¬ (false = true) from Bool.false_ne_true)]
  rw [← fold_eq]
  simp
theorem int_neg {x : Str} {l : List Nat} (e : tl x = 45 :: l) (h : l.all isD = true) (hn : l ≠ []) (hl : l.length ≤ 4300) : intText? x = some (-(natOf l : Int)) ∧ (numSeenOf x).length = x.length := by
  have e1 : (tl x).all (· < 128) = true := by rw [e, List.all_cons, small_of h]; rfl
  have e2 : ∀ c ∈ tl x, c ≠ 0 := fun c hc => by
    rw [e] at hc
    rcases List.mem_cons.mp hc with rfl | hc
    · decide
    · have := isD_iff.mp (List.all_eq_true.mp h c hc)
      omega
  have s := seenOf e1 e2
  refine ⟨?_, by rw [s, len_tl]⟩
  unfold intText?
  rw [s, textOf e1, if_pos (by simp), e, core_neg h, digits_of h hn]
  show (if (List.map (fun x => x - 48) l).toArray.size ≤ 4300 then _ else _) = _
  have e3 : (45 :: l).dropWhile blank = 45 :: l := by rw [List.dropWhile_cons] <;> rfl
  rw [if_pos (by simpa using hl), e3]
  show some (worth true _) = _
  unfold worth natOf
  rw [if_pos rfl, ← fold_eq]
  simp
/-! ### the forms -/
/-- digits without a leading zero -/
def digW (l : List Nat) : Bool := !l.isEmpty && (l.all isD && (l == [48] || l.head? != some 48))
/-- a whole number, with a minus perhaps -/
def whW : List Nat → Bool
  | 45 :: r => r != [48] && digW r
  | l => digW l
def wval : List Nat → Int
  | 45 :: r => -(natOf r : Int)
  | l => (natOf l : Int)
theorem digW_all {l : List Nat} (h : digW l = true) : l.all isD = true ∧ l ≠ [] := by
  unfold digW at h
  rw [Bool.and_eq_true, Bool.and_eq_true] at h
  exact ⟨h.2.1, by rintro rfl; exact absurd h.1 (by decide)⟩
theorem whW_cases {l : List Nat} (h : whW l = true) : (digW l = true ∧ wval l = natOf l) ∨ ∃ r, l = 45 :: r ∧ digW r = true ∧ r ≠ [48] ∧ wval l = -(natOf r : Int) := by
  unfold whW at h
  split at h
  · rename_i r
    rw [Bool.and_eq_true] at h
    exact .inr ⟨r, rfl, h.2, by simpa using h.1, rfl⟩
  · rename_i hne
    refine .inl ⟨h, ?_⟩
    unfold wval
    split
    · rename_i r
      exact absurd rfl (hne r)
    · rfl
theorem digW_neg (r : List Nat) : digW (45 :: r) = false := by
  unfold digW
  rw [List.all_cons]
  have : isD 45 = false := by decide
  rw [this]
  simp
theorem int_whole {x : Str} (h : whW (tl x) = true) (hl : (tl x).length ≤ 4300) : intText? x = some (wval (tl x)) ∧ (numSeenOf x).length = x.length := by
  rcases whW_cases h with ⟨h1, e⟩ | ⟨r, e, h1, _, e2⟩
  · obtain ⟨a, n⟩ := digW_all h1
    rw [e]
    exact int_pos a n hl
  · obtain ⟨a, n⟩ := digW_all h1
    rw [e2]
    exact int_neg e a n (by rw [e, List.length_cons] at hl; omega)
end NumT
namespace NumT
open PySem PySem.NumText L2 TL PyProof.Rows
theorem stw_minus (x : Str) : Txt.startswith x ("-" : Str) = decide ((tl x).head? = some 45) := by
  have hy : tl ("-" : Str) = [45] := by decide +kernel
  have e : Txt.startswith x ("-" : Str) = (decide (0 + ("-" : Str).length ≤ x.length) && PySem.Builtin.Str.subAt x ("-" : Str) 0) := rfl
  have at0 := @at_iff x ("-" : Str) (by rw [hy]; simp) 0
  rw [hy, List.drop_zero] at at0
  have hp : pre [45] (tl x) = decide ((tl x).head? = some 45) := by
    cases h : tl x with
    | nil => rfl
    | cons c r =>
      by_cases hc : c = 45
      · subst hc
        rw [decide_eq_true (show (45 :: r).head? = some 45 from rfl)]
        rfl
      · rw [decide_eq_false (show ¬ (c :: r).head? = some 45 from fun e => hc (Option.some.inj e))]
        exact pre_of_head [] r hc
  rw [← hp]
  have h1 : Txt.startswith x ("-" : Str) = true ↔ PySem.StrLaws.At x ("-" : Str) x.length 0 := by
    rw [e, Bool.and_eq_true, decide_eq_true_eq]
    exact Iff.rfl
  cases h2 : Txt.startswith x ("-" : Str) with
  | true => exact (at0.mp (h1.mp h2)).symm
  | false =>
    cases h3 : pre [45] (tl x) with
    | false => rfl
    | true => rw [h1.mpr (at0.mpr h3)] at h2; cases h2
theorem cut_tail (x : Str) (h : 1 ≤ x.length) : cutS x (some 1) none = ⟨((tl x).drop 1).toArray⟩ := by
  have e1 : HT.sIx x.length 0 (some 1) = 1 := by
    show (if (1:Int) < 0 then ((1:Int) + (x.length:Int)).toNat else min (1:Int).toNat x.length) = 1
    rw [if_neg (by omega)]
    show min 1 x.length = 1
    omega
  have e2 : HT.sIx x.length x.length none = x.length := rfl
  unfold cutS
  rw [e1, e2]
  rw [List.take_of_length_le (by rw [List.length_drop, ← len_tl]; omega)]
theorem cut_head (x : Str) : cutS x none (some 1) = ⟨((tl x).take 1).toArray⟩ := by
  have e1 : HT.sIx x.length 0 none = 0 := rfl
  have e2 : HT.sIx x.length x.length (some 1) = min 1 x.length := by
    show (if (1:Int) < 0 then ((1:Int) + (x.length:Int)).toNat else min (1:Int).toNat x.length) = min 1 x.length
    rw [if_neg (by omega)]
    rfl
  unfold cutS
  rw [e1, e2, List.drop_zero, Nat.sub_zero]
  have e3 : (tl x).take (min 1 x.length) = (tl x).take 1 := by
    rw [len_tl]
    cases tl x with
    | nil => rfl
    | cons c r =>
      have : min 1 (c :: r).length = 1 := by rw [List.length_cons]; omega
      rw [this]
  exact congrArg (fun l => (⟨l.toArray⟩ : Str)) e3
theorem zero_str : ("0" : Str) = ⟨#[48]⟩ := by decide +kernel
theorem sign_eq {c k : Nat} {z : Str} (hz : z = ⟨#[k]⟩) : decide ((⟨#[c]⟩ : Str) = z) = decide (c = k) := by
  subst hz
  refine decide_eq_decide.mpr ⟨fun e => ?_, fun e => by rw [e]⟩
  have := congrArg tl e
  simpa using this
theorem str_eq_iff {x z : Str} {l : List Nat} (hz : tl z = l) : x = z ↔ tl x = l := ⟨fun e => by rw [e, hz], fun e => ext_tl (e.trans hz.symm)⟩
theorem str_eq_dec {x z : Str} {l : List Nat} (hz : tl z = l) : decide (x = z) = decide (tl x = l) := decide_eq_decide.mpr (str_eq_iff hz)
/-- what whole_of lets -/
def okW (sg : Bool) (l : List Nat) : Bool := if sg then whW l && decide ((if l.head? = some 45 then l.length - 1 else l.length) ≤ 2000) else digW l && decide (l.length ≤ 2000)
/-- the signs that whole_of looks at -/
def dgs (sg : Bool) (l : List Nat) : List Nat := if sg = true ∧ l.head? = some 45 then l.drop 1 else l
theorem okW_eq (sg : Bool) (l : List Nat) : okW sg l = (decide (1 ≤ (dgs sg l).length) && (decide ((dgs sg l).length ≤ 2000) && ((dgs sg l).all isD && !(decide ((dgs sg l).head? = some 48) && !decide (l = [48]))))) := by
  cases sg with
  | false =>
    have e : dgs false l = l := by unfold dgs; rw [if_neg (by simp)]
    rw [e]
    unfold okW digW
    rw [if_neg Bool.false_ne_true]
    cases l with
    | nil => rfl
    | cons c r =>
      simp only [List.isEmpty_cons, Bool.not_false, Bool.true_and, List.head?_cons]
      have : decide (1 ≤ (c :: r).length) = true := by simp
      rw [this, Bool.true_and]
      cases (c :: r).all isD <;> cases decide ((c :: r).length ≤ 2000) <;> simp [bne, Bool.or_comm] <;> grind
  | true =>
    unfold okW
    rw [if_pos rfl]
    by_cases h : l.head? = some 45
    · rw [if_pos h]
      cases l with
      | nil => cases h
      | cons c r =>
        have hc : c = 45 := Option.some.inj h
        subst hc
        have e : dgs true (45 :: r) = r := by unfold dgs; rw [if_pos ⟨rfl, rfl⟩]; rfl
        rw [e]
        show ((r != [48] && digW r) && _) = _
        unfold digW
        cases r with
        | nil => rfl
        | cons c r =>
          simp only [List.isEmpty_cons, Bool.not_false, Bool.true_and, List.head?_cons, List.length_cons, Nat.add_sub_cancel]
          have : decide (1 ≤ r.length + 1) = true := by simp
          have n0 : decide ((45 :: c :: r) = [48]) = false := by simp
          rw [this, n0, Bool.true_and]
          by_cases h48 : c = 48
          · subst h48
            cases r with
            | nil => simp
            | cons d r => simp
          · simp [h48]
            cases isD c <;> cases r.all isD <;> simp <;> grind
    · rw [if_neg h]
      have e : dgs true l = l := by unfold dgs; rw [if_neg (by simp [h])]
      rw [e]
      have ew : whW l = digW l := by
        unfold whW
        split
        · exact absurd rfl h
        · rfl
      rw [ew]
      unfold digW
      cases l with
      | nil => rfl
      | cons c r =>
        simp only [List.isEmpty_cons, Bool.not_false, Bool.true_and, List.head?_cons]
        have : decide (1 ≤ (c :: r).length) = true := by simp
        rw [this, Bool.true_and]
        cases (c :: r).all isD <;> cases decide ((c :: r).length ≤ 2000) <;> simp [bne, Bool.or_comm] <;> grind
end NumT
namespace RatA
open PySem L2 PyProof.Rows
/-- what Ratio(t, b) divides by -/
def shr (t b : Int) : Int := if b < 0 then -((Nat.gcd t.natAbs b.natAbs : Nat) : Int) else ((Nat.gcd t.natAbs b.natAbs : Nat) : Int)
theorem gcd_pos {t b : Int} (hb : b ≠ 0) : 0 < Nat.gcd t.natAbs b.natAbs := Nat.gcd_pos_of_pos_right _ (Int.natAbs_pos.mpr hb)
theorem shr_ne {t b : Int} (hb : b ≠ 0) : shr t b ≠ 0 := by
  have := gcd_pos (t := t) hb
  unfold shr
  split <;> omega
theorem shr_abs (t b : Int) : (shr t b).natAbs = Nat.gcd t.natAbs b.natAbs := by
  unfold shr
  split <;> omega
theorem fdiv_shr {a t b : Int} (hb : b ≠ 0) (hd : ((Nat.gcd t.natAbs b.natAbs : Nat) : Int) ∣ a) : a.fdiv (shr t b) = b.sign * a / ((Nat.gcd t.natAbs b.natAbs : Nat) : Int) := by
  have gp := gcd_pos (t := t) hb
  obtain ⟨c, hc⟩ := hd
  have g0 : ((Nat.gcd t.natAbs b.natAbs : Nat) : Int) ≠ 0 := by omega
  unfold shr
  split
  · rename_i h
    rw [Int.sign_eq_neg_one_of_neg h, hc]
    have e : ((Nat.gcd t.natAbs b.natAbs : Nat) : Int) * c = -((Nat.gcd t.natAbs b.natAbs : Nat) : Int) * (-c) := by rw [Int.neg_mul_neg]
    have e2 : -1 * (((Nat.gcd t.natAbs b.natAbs : Nat) : Int) * c) = ((Nat.gcd t.natAbs b.natAbs : Nat) : Int) * (-c) := by rw [Int.mul_neg]; omega
    rw [e2, Int.mul_ediv_cancel_left _ g0, e, Int.mul_fdiv_cancel_left _ (by omega)]
  · rename_i h
    have hp : 0 < b := by omega
    rw [Int.sign_eq_one_of_pos hp, hc, Int.one_mul, Int.mul_fdiv_cancel_left _ g0, Int.mul_ediv_cancel_left _ g0]
theorem rat_top {t b : Int} (hb : b ≠ 0) : t.fdiv (shr t b) = (Rat.divInt t b).num := by
  rw [fdiv_shr hb (Int.natAbs_dvd_natAbs.mp (by simpa using Nat.gcd_dvd_left t.natAbs b.natAbs)), Rat.num_divInt, Int.gcd_comm]
  rfl
theorem rat_bot {t b : Int} (hb : b ≠ 0) : b.fdiv (shr t b) = ((Rat.divInt t b).den : Int) := by
  rw [fdiv_shr hb (Int.natAbs_dvd_natAbs.mp (by simpa using Nat.gcd_dvd_right t.natAbs b.natAbs)), Rat.den_divInt, if_neg hb, Int.gcd_comm]
  have e : b.sign * b = ((b.natAbs : Nat) : Int) := by
    rcases Int.lt_or_gt_of_ne hb with h | h
    · rw [Int.sign_eq_neg_one_of_neg h]; omega
    · rw [Int.sign_eq_one_of_pos h]; omega
  rw [e]
  exact (Int.natCast_ediv _ _).symm
/-- the fields of a Ratio -/
def ratF (q : Rat) : List (Str × V) := [("top", .int q.num), ("bottom", .int (q.den : Int))]
theorem tb_ne : ¬ (("top" : Str) = "bottom") := by decide +kernel
theorem bt_ne : ¬ (("bottom" : Str) = "top") := by decide +kernel
theorem ratF_put (q : Rat) : putF "bottom" (.int (q.den : Int)) (putF "top" (.int q.num) []) = ratF q := by
  show (if ("top" : Str) = "bottom" then [(("top" : Str), V.int (q.den : Int))] else (("top" : Str), V.int q.num) :: putF "bottom" (V.int (q.den : Int)) []) = _
  rw [if_neg tb_ne]
  rfl
theorem ratF_top (q : Rat) : (ratF q).lookup ("top" : Str) = some (V.int q.num) := by
  unfold ratF
  rw [List.lookup_cons, beq_self_eq_true]
theorem ratF_bot (q : Rat) : (ratF q).lookup ("bottom" : Str) = some (V.int (q.den : Int)) := by
  unfold ratF
  rw [List.lookup_cons, beq_false_of_ne bt_ne, List.lookup_cons, beq_self_eq_true]
/-- a Ratio that is q stands at p -/
def RatAt (C : Addr) (H : Hp) (p : Addr) (q : Rat) : Prop := ∃ dx, H p = some (.ins C dx (ratF q))
theorem RatAt.same {C : Addr} {H H' : Hp} {p : Addr} {q : Rat} (h : RatAt C H p q) (s : Same H H') : RatAt C H' p q := by
  obtain ⟨dx, h⟩ := h
  exact ⟨dx, s _ _ h⟩
end RatA
namespace My
open PySem PySem.Spec PyProof.Rows L2 He He5 Go NumT RatA TL
local macro_rules | `(tactic| walk_at "gv") => `(tactic| first
  | with_reducible refine g_v0 ?_ | with_reducible refine g_v1 ?_ | with_reducible refine g_v2 ?_ | with_reducible refine g_v3 ?_ | with_reducible refine g_v4 ?_ | with_reducible refine g_v5 ?_
  | with_reducible refine g_v6 ?_ | with_reducible refine g_v7 ?_ | with_reducible refine g_v8 ?_ | with_reducible refine g_v9 ?_ | with_reducible refine g_v10 ?_ | with_reducible refine g_v11 ?_ | with_reducible refine g_v12 ?_)
local macro_rules | `(tactic| walk_at "gn") => `(tactic| first
  | with_reducible refine g_n0 ?_ | with_reducible refine g_n1 ?_ | with_reducible refine g_n2 ?_ | with_reducible refine g_n3 ?_ | with_reducible refine g_n4 ?_ | with_reducible refine g_n5 ?_
  | with_reducible refine g_n6 ?_ | with_reducible refine g_n7 ?_ | with_reducible refine g_n8 ?_ | with_reducible refine g_n9 ?_ | with_reducible refine g_n10 ?_ | with_reducible refine g_n11 ?_ | with_reducible refine g_n12 ?_)
local macro_rules | `(tactic| walk_at "gs") => `(tactic| first
  | with_reducible refine g_asg ?_ | with_reducible refine g_ret ?_ | with_reducible refine g_if ?_ | with_reducible refine g_drop ?_ | with_reducible refine g_next ?_
  | with_reducible refine g_retN ?_ | with_reducible refine g_brk ?_ | with_reducible refine g_cont ?_ | with_reducible refine g_forA ?_ | with_reducible refine g_sfld ?_)
local macro_rules | `(tactic| walk_at "ge") => `(tactic| first
  | with_reducible refine g_c ?_ | with_reducible refine g_op ?_ | with_reducible refine g_test ?_ | with_reducible refine g_bl ?_ | with_reducible refine g_tB ?_ | with_reducible refine g_not ?_
  | with_reducible refine g_and ?_ | with_reducible refine g_or ?_ | with_reducible refine g_notV ?_ | with_reducible refine g_andV ?_ | with_reducible refine g_orV ?_ | with_reducible refine g_ifE ?_
  | with_reducible refine g_un ?_ | with_reducible refine g_chain ?_ | with_reducible refine g_nil ?_ | with_reducible refine g_cons ?_ | with_reducible refine g_tup ?_ | with_reducible refine g_lst ?_
  | with_reducible refine g_cb ?_ | with_reducible refine g_call ?_ | with_reducible refine g_cmeth ?_ | with_reducible refine g_make ?_ | with_reducible refine g_noPart ?_ | with_reducible refine g_part ?_
  | with_reducible refine g_partI ?_ | with_reducible refine g_sl ?_ | with_reducible refine g_m1 ?_ | with_reducible refine g_m0 ?_ | with_reducible refine g_isS ?_ | with_reducible refine g_gsub ?_
  | with_reducible refine g_gcons ?_ | with_reducible refine g_gnil ?_ | with_reducible refine g_bm ?_ | with_reducible refine g_bm0 ?_ | with_reducible refine g_mk ?_ | with_reducible refine g_lc ?_ | with_reducible refine g_fld ?_ | with_reducible refine g_yes ?_)
local macro_rules | `(tactic| walk_at "go_") => `(tactic| first
  | with_reducible refine g_addI ?_ | with_reducible refine g_subI ?_ | with_reducible refine g_ltI ?_ | with_reducible refine g_leI ?_ | with_reducible refine g_gtI ?_ | with_reducible refine g_geI ?_
  | with_reducible refine g_eqI ?_ | with_reducible refine g_eqS ?_ | with_reducible refine g_neI ?_ | with_reducible refine g_neS ?_
  | with_reducible refine g_isNn ?_ | with_reducible refine g_isNi ?_ | with_reducible refine g_isNs ?_ | with_reducible refine g_isNr ?_
  | with_reducible refine g_notNn ?_ | with_reducible refine g_notNi ?_ | with_reducible refine g_notNs ?_ | with_reducible refine g_notNr ?_ | with_reducible refine g_neg ?_
  | with_reducible refine g_inS ?_ | with_reducible refine g_niS ?_ | with_reducible refine g_iteT ?_ | with_reducible refine g_iteF ?_ | with_reducible refine g_iteNT ?_ | with_reducible refine g_iteNF ?_
  | with_reducible refine g_intI ?_ | with_reducible refine g_intB ?_ | with_reducible refine g_gcd ?_ | with_reducible refine g_max2 ?_ | with_reducible refine g_min2 ?_ | with_reducible refine g_stw ?_ | with_reducible refine g_abs ?_
  | with_reducible refine g_iStr ?_ | with_reducible refine g_exS ?_ | with_reducible refine g_iList ?_ | with_reducible refine g_iTup ?_ | with_reducible refine g_iR1 ?_ | with_reducible refine g_iR2 ?_ | with_reducible refine g_exR1 (by omega) (by omega) ?_ | with_reducible refine g_exR2 (by omega) ?_)
local macro_rules | `(tactic| walk_at "go1") => `(tactic| first | walk_at "gs" | with_reducible refine g_seq ?_ | walk_at "gv" | walk_at "ge" | walk_at "gn" | walk_at "go_")
local macro_rules | `(tactic| walk_at "go") => `(tactic| repeat walk_at "go1")
local macro_rules | `(tactic| walk_at "gl") => `(tactic| first
  | with_reducible refine g_lenS (by assumption) ?_ | with_reducible refine g_lenL (by assumption) ?_ | with_reducible refine g_lenT (by assumption) ?_ | with_reducible refine g_exL (by assumption) ?_ | with_reducible refine g_exT (by assumption) ?_)
local macro_rules | `(tactic| walk_at "gw") => `(tactic| repeat (first | walk_at "gs" | walk_at "gv" | walk_at "ge" | walk_at "gn" | walk_at "go_" | walk_at "gl"))
local macro_rules | `(tactic| walk_at "go2") => `(tactic| first | walk_at "go1" | walk_at "gl")
local macro_rules | `(tactic| walk_at "gg") => `(tactic| repeat walk_at "go2")

section
variable {P : Program} {w : World} {K : PySem.W.Frag} {mg : Str → Option Value} {base : Heap}
/-! ### is_label -/
def letL : List Nat := ("abcdefghijklmnopqrstuvwxyz" : Str).cps.toList
def labC (c : Nat) : Bool := decide (c ∈ letL) || decide (c ∈ digL)
def isLab (x : Str) : Bool := decide (1 ≤ x.length) && (decide (x.length ≤ 8) && x.cps.toList.all labC)
def spLab : Sp := fun vs H Q _ => ∃ x : Str, vs = [.str x] ∧ x.length ≤ sizeLine ∧ Q (.bl (isLab x)) H
theorem ok_is_label (T : Tx fxL fnL K mg) : FnR P w K mg base (L2.CX P w) 1 (ga K "is_label") spLab := by
  refine fun_ok (F_is_label T) sc_is_label (fun _ _ _ _ _ _ us hl => match us, hl with | [_], _ => rfl) ?_ ?_
  · rintro vs H Q E ⟨x, rfl, _⟩
    rfl
  · rintro cdv A outer s H vs Q E hr ⟨x, rfl, hz, q⟩
    refine ⟨_, (pss_cons (ps_if (pt_not (pt_chain o_le o_le pe_int (pe_callB b_len (by rfl) (z_len T) (by decide +kernel) (pa_cons (pv 0) pa_nil)) (pe_globE (by rfl) (cx_LONGEST_LABEL T)))) (pss_one (ps_ret pe_bl)) pss_nil)
 (pss_cons (ps_for (passes_of rfl) rfl (pi_str (pv 0)) (pg_name (i := 1) sc_is_label.nd rfl (Or.inl rfl)) (pss_one (ps_if (PW.pt (pw_and (pt_cmpR o_ni (pv 1) (pe_globE (by rfl) (cx_LETTERS T)) (by rfl)) (pw_and1 (pt_cmpR o_ni (pv 1) (pe_globE (by rfl) (cx_DIGITS T)) (by rfl))))) (pss_one (ps_ret pe_bl)) pss_nil)))
 (pss_one (ps_ret pe_bl)))), ?_⟩
    refine g_start (σ := [some (.str x), none]) rfl ?_
    walk_at "gg"
    refine g_ite (fun c1 => ?_) (fun c1 => ?_)
    · walk_at "gg"
      refine g_iteN (fun c2 => ?_) (fun c2 => ?_)
      · walk_at "gg"
        have e : isLab x = false := by
          unfold isLab
          rw [decide_eq_false (p := x.length ≤ 8) (by omega)]
          simp
        rw [e] at q
        exact q
      · walk_at "gg"
        have e : isLab x = x.cps.toList.all labC := by
          unfold isLab
          rw [decide_eq_true (p := x.length ≤ 8) (by omega), decide_eq_true (p := 1 ≤ x.length) (by omega)]
          simp
        refine l_str (fun i σ' H' => H' = H ∧ (∃ o, σ' = [some (.str x), o]) ∧ (x.cps.toList.take i).all labC = true) ⟨rfl, ⟨_, rfl⟩, by simp⟩ ?_ ?_
        · rintro i c σ' H' hc ⟨rfl, ⟨o, rfl⟩, ha⟩
          walk_at "gg"
          refine g_iteN (fun d1 => ?_) (fun d1 => ?_)
          · walk_at "gg"
            refine g_iteN (fun d2 => ?_) (fun d2 => ?_)
            · walk_at "gg"
              rw [e, not_all hc (by unfold labC; rw [decide_eq_false (p := c ∈ letL) d1, decide_eq_false (p := c ∈ digL) d2] <;> rfl)] at q
              exact q
            · walk_at "gg"
              exact ⟨rfl, ⟨_, rfl⟩, take_all hc ha (by unfold labC; rw [decide_eq_true (p := c ∈ digL) d2]; simp)⟩
          · walk_at "gg"
            exact ⟨rfl, ⟨_, rfl⟩, take_all hc ha (by unfold labC; rw [decide_eq_true (p := c ∈ letL) d1]; simp)⟩
        · rintro σ' H' ⟨rfl, ⟨o, rfl⟩, ha⟩
          walk_at "gg"
          rw [List.take_length] at ha
          rw [e, ha] at q
          exact q
    · walk_at "gg"
      have e : isLab x = false := by
        unfold isLab
        rw [decide_eq_false (p := 1 ≤ x.length) (by omega)]
        simp
      rw [e] at q
      exact q
end
end My
namespace My
open PySem PySem.Spec PyProof.Rows L2 He He5 Go NumT RatA TL
local macro_rules | `(tactic| walk_at "gv") => `(tactic| first
  | with_reducible refine g_v0 ?_ | with_reducible refine g_v1 ?_ | with_reducible refine g_v2 ?_ | with_reducible refine g_v3 ?_ | with_reducible refine g_v4 ?_ | with_reducible refine g_v5 ?_
  | with_reducible refine g_v6 ?_ | with_reducible refine g_v7 ?_ | with_reducible refine g_v8 ?_ | with_reducible refine g_v9 ?_ | with_reducible refine g_v10 ?_ | with_reducible refine g_v11 ?_ | with_reducible refine g_v12 ?_)
local macro_rules | `(tactic| walk_at "gn") => `(tactic| first
  | with_reducible refine g_n0 ?_ | with_reducible refine g_n1 ?_ | with_reducible refine g_n2 ?_ | with_reducible refine g_n3 ?_ | with_reducible refine g_n4 ?_ | with_reducible refine g_n5 ?_
  | with_reducible refine g_n6 ?_ | with_reducible refine g_n7 ?_ | with_reducible refine g_n8 ?_ | with_reducible refine g_n9 ?_ | with_reducible refine g_n10 ?_ | with_reducible refine g_n11 ?_ | with_reducible refine g_n12 ?_)
local macro_rules | `(tactic| walk_at "gs") => `(tactic| first
  | with_reducible refine g_asg ?_ | with_reducible refine g_ret ?_ | with_reducible refine g_if ?_ | with_reducible refine g_drop ?_ | with_reducible refine g_next ?_
  | with_reducible refine g_retN ?_ | with_reducible refine g_brk ?_ | with_reducible refine g_cont ?_ | with_reducible refine g_forA ?_ | with_reducible refine g_sfld ?_)
local macro_rules | `(tactic| walk_at "ge") => `(tactic| first
  | with_reducible refine g_c ?_ | with_reducible refine g_op ?_ | with_reducible refine g_test ?_ | with_reducible refine g_bl ?_ | with_reducible refine g_tB ?_ | with_reducible refine g_not ?_
  | with_reducible refine g_and ?_ | with_reducible refine g_or ?_ | with_reducible refine g_notV ?_ | with_reducible refine g_andV ?_ | with_reducible refine g_orV ?_ | with_reducible refine g_ifE ?_
  | with_reducible refine g_un ?_ | with_reducible refine g_chain ?_ | with_reducible refine g_nil ?_ | with_reducible refine g_cons ?_ | with_reducible refine g_tup ?_ | with_reducible refine g_lst ?_
  | with_reducible refine g_cb ?_ | with_reducible refine g_call ?_ | with_reducible refine g_cmeth ?_ | with_reducible refine g_make ?_ | with_reducible refine g_noPart ?_ | with_reducible refine g_part ?_
  | with_reducible refine g_partI ?_ | with_reducible refine g_sl ?_ | with_reducible refine g_m1 ?_ | with_reducible refine g_m0 ?_ | with_reducible refine g_isS ?_ | with_reducible refine g_gsub ?_
  | with_reducible refine g_gcons ?_ | with_reducible refine g_gnil ?_ | with_reducible refine g_bm ?_ | with_reducible refine g_bm0 ?_ | with_reducible refine g_mk ?_ | with_reducible refine g_lc ?_ | with_reducible refine g_fld ?_ | with_reducible refine g_yes ?_)
local macro_rules | `(tactic| walk_at "go_") => `(tactic| first
  | with_reducible refine g_addI ?_ | with_reducible refine g_subI ?_ | with_reducible refine g_ltI ?_ | with_reducible refine g_leI ?_ | with_reducible refine g_gtI ?_ | with_reducible refine g_geI ?_
  | with_reducible refine g_eqI ?_ | with_reducible refine g_eqS ?_ | with_reducible refine g_neI ?_ | with_reducible refine g_neS ?_
  | with_reducible refine g_isNn ?_ | with_reducible refine g_isNi ?_ | with_reducible refine g_isNs ?_ | with_reducible refine g_isNr ?_
  | with_reducible refine g_notNn ?_ | with_reducible refine g_notNi ?_ | with_reducible refine g_notNs ?_ | with_reducible refine g_notNr ?_ | with_reducible refine g_neg ?_
  | with_reducible refine g_inS ?_ | with_reducible refine g_niS ?_ | with_reducible refine g_iteT ?_ | with_reducible refine g_iteF ?_ | with_reducible refine g_iteNT ?_ | with_reducible refine g_iteNF ?_
  | with_reducible refine g_intI ?_ | with_reducible refine g_intB ?_ | with_reducible refine g_gcd ?_ | with_reducible refine g_max2 ?_ | with_reducible refine g_min2 ?_ | with_reducible refine g_stw ?_ | with_reducible refine g_abs ?_
  | with_reducible refine g_iStr ?_ | with_reducible refine g_exS ?_ | with_reducible refine g_iList ?_ | with_reducible refine g_iTup ?_ | with_reducible refine g_iR1 ?_ | with_reducible refine g_iR2 ?_ | with_reducible refine g_exR1 (by omega) (by omega) ?_ | with_reducible refine g_exR2 (by omega) ?_)
local macro_rules | `(tactic| walk_at "go1") => `(tactic| first | walk_at "gs" | with_reducible refine g_seq ?_ | walk_at "gv" | walk_at "ge" | walk_at "gn" | walk_at "go_")
local macro_rules | `(tactic| walk_at "go") => `(tactic| repeat walk_at "go1")
local macro_rules | `(tactic| walk_at "gl") => `(tactic| first
  | with_reducible refine g_lenS (by assumption) ?_ | with_reducible refine g_lenL (by assumption) ?_ | with_reducible refine g_lenT (by assumption) ?_ | with_reducible refine g_exL (by assumption) ?_ | with_reducible refine g_exT (by assumption) ?_)
local macro_rules | `(tactic| walk_at "gw") => `(tactic| repeat (first | walk_at "gs" | walk_at "gv" | walk_at "ge" | walk_at "gn" | walk_at "go_" | walk_at "gl"))
local macro_rules | `(tactic| walk_at "go2") => `(tactic| first | walk_at "go1" | walk_at "gl")
local macro_rules | `(tactic| walk_at "gg") => `(tactic| repeat walk_at "go2")

section
variable {P : Program} {w : World} {K : PySem.W.Frag} {mg : Str → Option Value} {base : Heap}
/-! ### whole_of -/
def spWhole : Sp := fun vs H Q _ => ∃ (x : Str) (sg : Bool), vs = [.str x, .bl sg] ∧ x.length ≤ sizeLine ∧ (okW sg (tl x) = true → Q (.int (wval (tl x))) H) ∧ (okW sg (tl x) = false → Q .non H)
theorem head_at {x : Str} {c : Nat} (h : (tl x).head? = some c) : atI x.cps.toList 0 = some c := by
  show atI (tl x) 0 = some c
  cases e : tl x with
  | nil => rw [e] at h; cases h
  | cons d r =>
    rw [e] at h
    have : d = c := Option.some.inj h
    subst this
    exact atI_nat (xs := d :: r) (j := 0) rfl
theorem okW_whole {sg : Bool} {l : List Nat} (h : okW sg l = true) : whW l = true ∧ l.length ≤ 2001 := by
  unfold okW at h
  cases sg with
  | false =>
    rw [if_neg Bool.false_ne_true, Bool.and_eq_true, decide_eq_true_eq] at h
    refine ⟨?_, by omega⟩
    unfold whW
    split
    · rename_i r
      have := digW_neg r
      rw [this] at h
      cases h.1
    · exact h.1
  | true =>
    rw [if_pos rfl, Bool.and_eq_true, decide_eq_true_eq] at h
    refine ⟨h.1, ?_⟩
    have := h.2
    split at this <;> omega
theorem ok_whole_of (T : Tx fxL fnL K mg) : FnR P w K mg base (L2.CX P w) 1 (ga K "whole_of") spWhole := by
  refine fun_ok (F_whole_of T) sc_whole_of (fun _ _ _ _ _ _ us hl => match us, hl with | [_, _], _ => rfl) ?_ ?_
  · rintro vs H Q E ⟨x, sg, rfl, _⟩
    rfl
  · rintro cdv A outer s H vs Q E hr ⟨x, sg, rfl, hz, q1, q2⟩
    refine ⟨_, (pss_cons (ps_set (i := 2) sc_whole_of.nd rfl (Or.inl rfl) (pv 0))
 (pss_cons (ps_if (PW.pt (pw_and (pt_val (pv 1)) (pw_and1 (pt_val (pe_m1 PySem.F.slot_str_startswith PySem.F.type_str_startswith m_stw (pv 0) pe_str))))) (pss_one (ps_set (i := 2) sc_whole_of.nd rfl (Or.inl rfl) (pe_slice o_sl (pv 0) (po_some pe_int) po_none))) pss_nil)
 (pss_cons (ps_if (pt_not (pt_chain o_le o_le pe_int (pe_callB b_len (by rfl) (z_len T) (by decide +kernel) (pa_cons (pv 2) pa_nil)) (pe_globE (by rfl) (cx_MOST_DIGITS T)))) (pss_one (ps_ret pe_non)) pss_nil)
 (pss_cons (ps_for (passes_of rfl) rfl (pi_str (pv 2)) (pg_name (i := 3) sc_whole_of.nd rfl (Or.inl rfl)) (pss_one (ps_if (pt_cmpR o_ni (pv 3) (pe_globE (by rfl) (cx_DIGITS T)) (by rfl)) (pss_one (ps_ret pe_non)) pss_nil)))
 (pss_cons (ps_if (PW.pt (pw_and (pt_cmpR (o_eq hr.units) (pe_ix ix_seq (pv 2) pe_int (fun _ _ => rfl)) pe_str (nomark _)) (pw_and1 (pt_cmpR (o_ne hr.units) (pv 0) pe_str (nomark _))))) (pss_one (ps_ret pe_non)) pss_nil)
 (pss_one (ps_ret (pe_callTy (c_int (nd_int T)) (by rfl) (z_int T) (by decide +kernel) (pa_cons (pv 0) pa_nil))))))))), ?_⟩
    refine g_start (σ := [some (.str x), some (.bl sg), none, none]) rfl ?_
    have hw := okW_eq sg (tl x)
    refine g_seq ?_
    walk_at "gw"
    refine g_seqK (fun σ' H' => H' = H ∧ ∃ d : Str, tl d = dgs sg (tl x) ∧ d.length ≤ sizeLine ∧ σ' = [some (.str x), some (.bl sg), some (.str d), none]) ?_ ?_
    · rintro σ' H' ⟨rfl, d, hd, hdz, rfl⟩
      rw [← hd] at hw
      have ld : ((d.length : Nat) : Int) = ((tl d).length : Int) := by rw [len_tl]
      walk_at "gg"
      refine g_ite (fun c1 => ?_) (fun c1 => ?_)
      · walk_at "gg"
        refine g_iteN (fun c2 => ?_) (fun c2 => ?_)
        · walk_at "gg"
          exact q2 (by rw [hw, decide_eq_false (p := (tl d).length ≤ 2000) (by omega)]; simp)
        · walk_at "gg"
          rw [decide_eq_true (p := 1 ≤ (tl d).length) (by omega), decide_eq_true (p := (tl d).length ≤ 2000) (by omega)] at hw
          refine l_str (fun i σ' H2 => H2 = H' ∧ (∃ o, σ' = [some (.str x), some (.bl sg), some (.str d), o]) ∧ ((tl d).take i).all isD = true) ⟨rfl, ⟨_, rfl⟩, by simp⟩ ?_ ?_
          · rintro i c σ' H2 hc ⟨rfl, ⟨o, rfl⟩, ha⟩
            walk_at "gg"
            rw [show ("0123456789" : Str).cps.toList = digL from rfl, mem_dig]
            refine g_iteNB (fun d1 => ?_) (fun d1 => ?_)
            · walk_at "gg"
              exact ⟨rfl, ⟨_, rfl⟩, take_all hc ha d1⟩
            · walk_at "gg"
              exact q2 (by rw [hw, not_all hc d1]; simp)
          · rintro σ' H2 ⟨rfl, ⟨o, rfl⟩, ha⟩
            rw [List.take_length] at ha
            rw [ha] at hw
            obtain ⟨c, hc⟩ : ∃ c, (tl d).head? = some c := by
              cases e : tl d with
              | nil => rw [e] at ld; simp at ld; omega
              | cons c r => exact ⟨c, rfl⟩
            have fin : okW sg (tl x) = true → Q (.int (wval (tl x))) H2 := q1
            have ret : okW sg (tl x) = true → rInt [.str x] H2 Q := fun hk => by
              obtain ⟨hw1, hw2⟩ := okW_whole hk
              obtain ⟨i1, i2⟩ := int_whole hw1 (by omega)
              exact g_intS i1 i2 hz (q1 hk)
            walk_at "gg"
            refine g_ixS hdz (head_at hc) ?_
            walk_at "gg"
            rw [sign_eq zero_str]
            have hcd : decide ((tl d).head? = some 48) = decide (c = 48) := decide_eq_decide.mpr ⟨fun e => by rw [hc] at e; exact Option.some.inj e, fun e => by rw [hc, e]⟩
            rw [hcd] at hw
            refine g_ite (fun e1 => ?_) (fun e1 => ?_)
            · walk_at "gg"
              rw [str_eq_dec (show tl ("0" : Str) = [48] by decide +kernel)]
              refine g_iteN (fun e2 => ?_) (fun e2 => ?_)
              · walk_at "gg"
                exact q2 (by rw [hw, decide_eq_true e1, decide_eq_false e2]; rfl)
              · walk_at "gg"
                exact ret (by rw [hw, decide_eq_true e1, decide_eq_true e2]; rfl)
            · walk_at "gg"
              exact ret (by rw [hw, decide_eq_false e1]; rfl)
      · walk_at "gg"
        exact q2 (by rw [hw, decide_eq_false (p := 1 ≤ (tl d).length) (by omega)]; simp)
    · intro N hN
      walk_at "gg"
      cases sg with
      | false =>
        walk_at "gg"
        refine hN _ _ ⟨rfl, x, ?_, hz, rfl⟩
        unfold dgs
        rw [if_neg (by simp)]
      | true =>
        walk_at "gg"
        rw [stw_minus]
        refine g_ite (fun c => ?_) (fun c => ?_)
        · walk_at "gg"
          have h1 : 1 ≤ x.length := by
            rw [len_tl]
            cases e : tl x with
            | nil => rw [e] at c; cases c
            | cons d r => simp
          refine .inr (.inr ⟨x, rfl, hz, ?_⟩)
          rw [cut_tail x h1]
          walk_at "gg"
          refine hN _ _ ⟨rfl, _, ?_, ?_, rfl⟩
          · unfold dgs
            rw [if_pos ⟨rfl, c⟩]
          · show (((tl x).drop 1).toArray).size ≤ sizeLine
            rw [List.size_toArray, List.length_drop, ← len_tl]
            omega
        · walk_at "gg"
          refine hN _ _ ⟨rfl, x, ?_, hz, rfl⟩
          unfold dgs
          rw [if_neg (by simp [c])]
end
end My
namespace My
open PySem PySem.Spec PyProof.Rows L2 He He5 Go NumT RatA TL
local macro_rules | `(tactic| walk_at "gv") => `(tactic| first
  | with_reducible refine g_v0 ?_ | with_reducible refine g_v1 ?_ | with_reducible refine g_v2 ?_ | with_reducible refine g_v3 ?_ | with_reducible refine g_v4 ?_ | with_reducible refine g_v5 ?_
  | with_reducible refine g_v6 ?_ | with_reducible refine g_v7 ?_ | with_reducible refine g_v8 ?_ | with_reducible refine g_v9 ?_ | with_reducible refine g_v10 ?_ | with_reducible refine g_v11 ?_ | with_reducible refine g_v12 ?_)
local macro_rules | `(tactic| walk_at "gn") => `(tactic| first
  | with_reducible refine g_n0 ?_ | with_reducible refine g_n1 ?_ | with_reducible refine g_n2 ?_ | with_reducible refine g_n3 ?_ | with_reducible refine g_n4 ?_ | with_reducible refine g_n5 ?_
  | with_reducible refine g_n6 ?_ | with_reducible refine g_n7 ?_ | with_reducible refine g_n8 ?_ | with_reducible refine g_n9 ?_ | with_reducible refine g_n10 ?_ | with_reducible refine g_n11 ?_ | with_reducible refine g_n12 ?_)
local macro_rules | `(tactic| walk_at "gs") => `(tactic| first
  | with_reducible refine g_asg ?_ | with_reducible refine g_ret ?_ | with_reducible refine g_if ?_ | with_reducible refine g_drop ?_ | with_reducible refine g_next ?_
  | with_reducible refine g_retN ?_ | with_reducible refine g_brk ?_ | with_reducible refine g_cont ?_ | with_reducible refine g_forA ?_ | with_reducible refine g_sfld ?_)
local macro_rules | `(tactic| walk_at "ge") => `(tactic| first
  | with_reducible refine g_c ?_ | with_reducible refine g_op ?_ | with_reducible refine g_test ?_ | with_reducible refine g_bl ?_ | with_reducible refine g_tB ?_ | with_reducible refine g_not ?_
  | with_reducible refine g_and ?_ | with_reducible refine g_or ?_ | with_reducible refine g_notV ?_ | with_reducible refine g_andV ?_ | with_reducible refine g_orV ?_ | with_reducible refine g_ifE ?_
  | with_reducible refine g_un ?_ | with_reducible refine g_chain ?_ | with_reducible refine g_nil ?_ | with_reducible refine g_cons ?_ | with_reducible refine g_tup ?_ | with_reducible refine g_lst ?_
  | with_reducible refine g_cb ?_ | with_reducible refine g_call ?_ | with_reducible refine g_cmeth ?_ | with_reducible refine g_make ?_ | with_reducible refine g_noPart ?_ | with_reducible refine g_part ?_
  | with_reducible refine g_partI ?_ | with_reducible refine g_sl ?_ | with_reducible refine g_m1 ?_ | with_reducible refine g_m0 ?_ | with_reducible refine g_isS ?_ | with_reducible refine g_gsub ?_
  | with_reducible refine g_gcons ?_ | with_reducible refine g_gnil ?_ | with_reducible refine g_bm ?_ | with_reducible refine g_bm0 ?_ | with_reducible refine g_mk ?_ | with_reducible refine g_lc ?_ | with_reducible refine g_fld ?_ | with_reducible refine g_yes ?_)
local macro_rules | `(tactic| walk_at "go_") => `(tactic| first
  | with_reducible refine g_addI ?_ | with_reducible refine g_subI ?_ | with_reducible refine g_ltI ?_ | with_reducible refine g_leI ?_ | with_reducible refine g_gtI ?_ | with_reducible refine g_geI ?_
  | with_reducible refine g_eqI ?_ | with_reducible refine g_eqS ?_ | with_reducible refine g_neI ?_ | with_reducible refine g_neS ?_
  | with_reducible refine g_isNn ?_ | with_reducible refine g_isNi ?_ | with_reducible refine g_isNs ?_ | with_reducible refine g_isNr ?_
  | with_reducible refine g_notNn ?_ | with_reducible refine g_notNi ?_ | with_reducible refine g_notNs ?_ | with_reducible refine g_notNr ?_ | with_reducible refine g_neg ?_
  | with_reducible refine g_inS ?_ | with_reducible refine g_niS ?_ | with_reducible refine g_iteT ?_ | with_reducible refine g_iteF ?_ | with_reducible refine g_iteNT ?_ | with_reducible refine g_iteNF ?_
  | with_reducible refine g_intI ?_ | with_reducible refine g_intB ?_ | with_reducible refine g_gcd ?_ | with_reducible refine g_max2 ?_ | with_reducible refine g_min2 ?_ | with_reducible refine g_stw ?_ | with_reducible refine g_abs ?_
  | with_reducible refine g_iStr ?_ | with_reducible refine g_exS ?_ | with_reducible refine g_iList ?_ | with_reducible refine g_iTup ?_ | with_reducible refine g_iR1 ?_ | with_reducible refine g_iR2 ?_ | with_reducible refine g_exR1 (by omega) (by omega) ?_ | with_reducible refine g_exR2 (by omega) ?_)
local macro_rules | `(tactic| walk_at "go1") => `(tactic| first | walk_at "gs" | with_reducible refine g_seq ?_ | walk_at "gv" | walk_at "ge" | walk_at "gn" | walk_at "go_")
local macro_rules | `(tactic| walk_at "go") => `(tactic| repeat walk_at "go1")
local macro_rules | `(tactic| walk_at "gl") => `(tactic| first
  | with_reducible refine g_lenS (by assumption) ?_ | with_reducible refine g_lenL (by assumption) ?_ | with_reducible refine g_lenT (by assumption) ?_ | with_reducible refine g_exL (by assumption) ?_ | with_reducible refine g_exT (by assumption) ?_)
local macro_rules | `(tactic| walk_at "gw") => `(tactic| repeat (first | walk_at "gs" | walk_at "gv" | walk_at "ge" | walk_at "gn" | walk_at "go_" | walk_at "gl"))
local macro_rules | `(tactic| walk_at "go2") => `(tactic| first | walk_at "go1" | walk_at "gl")
local macro_rules | `(tactic| walk_at "gg") => `(tactic| repeat walk_at "go2")

section
variable {P : Program} {w : World} {K : PySem.W.Frag} {mg : Str → Option Value} {base : Heap}
/-! ### Ratio -/
/-- all but p is as it was -/
def But (p : Addr) (H H' : Hp) : Prop := ∀ b o, H b = some o → b ≠ p → H' b = some o
def spRInit (K : PySem.W.Frag) : Sp := fun vs H Q _ => ∃ (p dx : Addr) (t b : Int), vs = [.ref p, .int t, .int b] ∧ H p = some (.ins (ga K "Ratio") dx []) ∧ b ≠ 0 ∧ b.natAbs.log2 < 9000 ∧
  ∀ H', But p H H' → H' p = some (.ins (ga K "Ratio") dx (ratF (Rat.divInt t b))) → Q .non H'
theorem log_le {a b : Nat} (h : a ≤ b) (hb : b.log2 < 9000) : a.log2 < 9000 := by
  rcases Nat.eq_zero_or_pos a with rfl | ha
  · rw [Nat.log2_zero]; omega
  · refine Nat.lt_of_le_of_lt ?_ hb
    exact (Nat.le_log2 (by omega)).mpr (Nat.le_trans (Nat.log2_self_le (by omega)) h)
theorem rinit_body (T : Tx fxL fnL K mg) (cdv : Value) (A : Around) (outer : List Env) (s : Shared) (H : Hp) (vs : List V) (Q : VK) (E : XK) (hr : Room 0 (A.deeper (envOfC "Ratio.__init__" (defScope s_Ratio___init__) s.heap.objs.size (ma K (ga K "Ratio") "__init__") cdv))) (h : spRInit K vs H Q E) :
    ∃ t, PSs (cxOf (L2.CX P w) P w K mg base ["self", "top", "bottom", "shared"] "Ratio.__init__" (defScope s_Ratio___init__) (ma K (ga K "Ratio") "__init__") cdv A outer s H E) (defBody s_Ratio___init__) t ∧ t { nx := fun _ H' => Q .non H', rt := Q } (start ["self", "top", "bottom", "shared"] vs) H := by
  obtain ⟨p, dx, t, b, rfl, hp, hb, hl, q⟩ := h
  refine ⟨_, (pss_cons (ps_if (pt_cmpR (o_eq hr.units) (pv 2) pe_int (nomark _)) (pss_one ps_never) pss_nil)
 (pss_cons (ps_set (i := 3) sc_Ratio___init__.nd rfl (Or.inl rfl) (pe_callBfun cr_gcd (by rfl) (gm_gcd T) (pa_cons (pv 1) (pa_cons (pv 2) pa_nil))))
 (pss_cons (ps_if (pt_cmpR o_lt (pv 2) pe_int (nomark _)) (pss_one (ps_set (i := 3) sc_Ratio___init__.nd rfl (Or.inl rfl) (pe_un un_neg (pv 3)))) pss_nil)
 (pss_cons (ps_fld (pv 0) (pe_op o_fdv (pv 1) (pv 3)) rfl)
 (pss_one (ps_fld (pv 0) (pe_op o_fdv (pv 2) (pv 3)) rfl)))))), ?_⟩
  refine g_start (σ := [some (.ref p), some (.int t), some (.int b), none]) rfl ?_
  refine g_seqK (fun σ' H' => H' = H ∧ σ' = [some (.ref p), some (.int t), some (.int b), none]) ?_ ?_
  · rintro σ' H' ⟨rfl, rfl⟩
    refine g_seq ?_
    walk_at "gw"
    refine g_seqK (fun σ' H2 => H2 = H' ∧ σ' = [some (.ref p), some (.int t), some (.int b), some (.int (shr t b))]) ?_ ?_
    · rintro σ' H2 ⟨rfl, rfl⟩
      have l2 : (shr t b).natAbs.log2 < 9000 := by
        rw [shr_abs]
        exact log_le (Nat.le_of_dvd (Int.natAbs_pos.mpr hb) (Nat.gcd_dvd_right _ _)) hl
      walk_at "gg"
      refine g_fdvZ (shr_ne hb) l2 ?_
      walk_at "gg"
      refine g_put hp (cl_Ratio T) (na_Ratio_top T) (by show 0 < 1000; decide) ?_
      walk_at "gg"
      refine g_fdvZ (shr_ne hb) l2 ?_
      walk_at "gg"
      refine g_put upd_same (cl_Ratio T) (na_Ratio_bottom T) ?_ ?_
      · show 1 < 1000
        decide
      rw [rat_top hb, rat_bot hb, ratF_put]
      exact q _ (fun c o e ne => by rw [upd_ne ne, upd_ne ne]; exact e) upd_same
    · intro N hN
      walk_at "gg"
      refine g_ite (fun c => ?_) (fun c => ?_)
      · walk_at "gg"
        refine hN _ _ ⟨rfl, ?_⟩
        unfold shr
        rw [if_pos c]
      · walk_at "gg"
        refine hN _ _ ⟨rfl, ?_⟩
        unfold shr
        rw [if_neg c]
  · intro N hN
    walk_at "gg"
    refine g_iteM hb ?_
    walk_at "gg"
    exact hN _ _ ⟨rfl, rfl⟩
theorem ok_Ratio___init__ (T : Tx fxL fnL K mg) : FnR P w K mg base (L2.CX P w) 1 (ma K (ga K "Ratio") "__init__") (spRInit K) := by
  refine FnR.imp (fun_okD (sp := spRInit K) (F_Ratio___init__ T) sc_Ratio___init__ 3 1 (by simp) rfl (fun T kV doc pm an cdv ct us its h1 h2 => ?_) ?_ (rinit_body T)) (fun vs H Q E h => by simpa using h)
  · match us, its, h1, h2 with
    | [_, _, _], [_], _, _ => exact ⟨_, rfl, rfl⟩
  · rintro vs H Q E ⟨p, dx, t, b, rfl, _⟩
    rfl
def spRInit1 (K : PySem.W.Frag) : Sp := fun vs H Q _ => ∃ (p dx : Addr) (t : Int), vs = [.ref p, .int t] ∧ H p = some (.ins (ga K "Ratio") dx []) ∧
  ∀ H', But p H H' → H' p = some (.ins (ga K "Ratio") dx (ratF (Rat.divInt t 1))) → Q .non H'
theorem ok_Ratio___init__2 (T : Tx fxL fnL K mg) : FnR P w K mg base (L2.CX P w) 1 (ma K (ga K "Ratio") "__init__") (spRInit1 K) := by
  refine FnR.imp (fun_okD (sp := spRInit K) (F_Ratio___init__ T) sc_Ratio___init__ 2 0 (by simp) rfl (fun T kV doc pm an cdv ct us its h1 h2 => ?_) ?_ (rinit_body T)) (fun vs H Q E h => ?_)
  · match us, its, h1, h2 with
    | [_, _], [_], _, _ => exact ⟨_, rfl, rfl⟩
  · rintro vs H Q E ⟨p, dx, t, b, rfl, _⟩
    rfl
  · obtain ⟨p, dx, t, rfl, hp, q⟩ := h
    exact ⟨p, dx, t, 1, rfl, hp, by decide, by decide, q⟩
end
end My
namespace My
open PySem PySem.Spec PyProof.Rows L2 He He5 Go NumT RatA TL
local macro_rules | `(tactic| walk_at "gv") => `(tactic| first
  | with_reducible refine g_v0 ?_ | with_reducible refine g_v1 ?_ | with_reducible refine g_v2 ?_ | with_reducible refine g_v3 ?_ | with_reducible refine g_v4 ?_ | with_reducible refine g_v5 ?_
  | with_reducible refine g_v6 ?_ | with_reducible refine g_v7 ?_ | with_reducible refine g_v8 ?_ | with_reducible refine g_v9 ?_ | with_reducible refine g_v10 ?_ | with_reducible refine g_v11 ?_ | with_reducible refine g_v12 ?_)
local macro_rules | `(tactic| walk_at "gn") => `(tactic| first
  | with_reducible refine g_n0 ?_ | with_reducible refine g_n1 ?_ | with_reducible refine g_n2 ?_ | with_reducible refine g_n3 ?_ | with_reducible refine g_n4 ?_ | with_reducible refine g_n5 ?_
  | with_reducible refine g_n6 ?_ | with_reducible refine g_n7 ?_ | with_reducible refine g_n8 ?_ | with_reducible refine g_n9 ?_ | with_reducible refine g_n10 ?_ | with_reducible refine g_n11 ?_ | with_reducible refine g_n12 ?_)
local macro_rules | `(tactic| walk_at "gs") => `(tactic| first
  | with_reducible refine g_asg ?_ | with_reducible refine g_ret ?_ | with_reducible refine g_if ?_ | with_reducible refine g_drop ?_ | with_reducible refine g_next ?_
  | with_reducible refine g_retN ?_ | with_reducible refine g_brk ?_ | with_reducible refine g_cont ?_ | with_reducible refine g_forA ?_ | with_reducible refine g_sfld ?_)
local macro_rules | `(tactic| walk_at "ge") => `(tactic| first
  | with_reducible refine g_c ?_ | with_reducible refine g_op ?_ | with_reducible refine g_test ?_ | with_reducible refine g_bl ?_ | with_reducible refine g_tB ?_ | with_reducible refine g_not ?_
  | with_reducible refine g_and ?_ | with_reducible refine g_or ?_ | with_reducible refine g_notV ?_ | with_reducible refine g_andV ?_ | with_reducible refine g_orV ?_ | with_reducible refine g_ifE ?_
  | with_reducible refine g_un ?_ | with_reducible refine g_chain ?_ | with_reducible refine g_nil ?_ | with_reducible refine g_cons ?_ | with_reducible refine g_tup ?_ | with_reducible refine g_lst ?_
  | with_reducible refine g_cb ?_ | with_reducible refine g_call ?_ | with_reducible refine g_cmeth ?_ | with_reducible refine g_make ?_ | with_reducible refine g_noPart ?_ | with_reducible refine g_part ?_
  | with_reducible refine g_partI ?_ | with_reducible refine g_sl ?_ | with_reducible refine g_m1 ?_ | with_reducible refine g_m0 ?_ | with_reducible refine g_isS ?_ | with_reducible refine g_gsub ?_
  | with_reducible refine g_gcons ?_ | with_reducible refine g_gnil ?_ | with_reducible refine g_bm ?_ | with_reducible refine g_bm0 ?_ | with_reducible refine g_mk ?_ | with_reducible refine g_lc ?_ | with_reducible refine g_fld ?_ | with_reducible refine g_yes ?_)
local macro_rules | `(tactic| walk_at "go_") => `(tactic| first
  | with_reducible refine g_addI ?_ | with_reducible refine g_subI ?_ | with_reducible refine g_ltI ?_ | with_reducible refine g_leI ?_ | with_reducible refine g_gtI ?_ | with_reducible refine g_geI ?_
  | with_reducible refine g_eqI ?_ | with_reducible refine g_eqS ?_ | with_reducible refine g_neI ?_ | with_reducible refine g_neS ?_
  | with_reducible refine g_isNn ?_ | with_reducible refine g_isNi ?_ | with_reducible refine g_isNs ?_ | with_reducible refine g_isNr ?_
  | with_reducible refine g_notNn ?_ | with_reducible refine g_notNi ?_ | with_reducible refine g_notNs ?_ | with_reducible refine g_notNr ?_ | with_reducible refine g_neg ?_
  | with_reducible refine g_inS ?_ | with_reducible refine g_niS ?_ | with_reducible refine g_iteT ?_ | with_reducible refine g_iteF ?_ | with_reducible refine g_iteNT ?_ | with_reducible refine g_iteNF ?_
  | with_reducible refine g_intI ?_ | with_reducible refine g_intB ?_ | with_reducible refine g_gcd ?_ | with_reducible refine g_max2 ?_ | with_reducible refine g_min2 ?_ | with_reducible refine g_stw ?_ | with_reducible refine g_abs ?_
  | with_reducible refine g_iStr ?_ | with_reducible refine g_exS ?_ | with_reducible refine g_iList ?_ | with_reducible refine g_iTup ?_ | with_reducible refine g_iR1 ?_ | with_reducible refine g_iR2 ?_ | with_reducible refine g_exR1 (by omega) (by omega) ?_ | with_reducible refine g_exR2 (by omega) ?_)
local macro_rules | `(tactic| walk_at "go1") => `(tactic| first | walk_at "gs" | with_reducible refine g_seq ?_ | walk_at "gv" | walk_at "ge" | walk_at "gn" | walk_at "go_")
local macro_rules | `(tactic| walk_at "go") => `(tactic| repeat walk_at "go1")
local macro_rules | `(tactic| walk_at "gl") => `(tactic| first
  | with_reducible refine g_lenS (by assumption) ?_ | with_reducible refine g_lenL (by assumption) ?_ | with_reducible refine g_lenT (by assumption) ?_ | with_reducible refine g_exL (by assumption) ?_ | with_reducible refine g_exT (by assumption) ?_)
local macro_rules | `(tactic| walk_at "gw") => `(tactic| repeat (first | walk_at "gs" | walk_at "gv" | walk_at "ge" | walk_at "gn" | walk_at "go_" | walk_at "gl"))
local macro_rules | `(tactic| walk_at "go2") => `(tactic| first | walk_at "go1" | walk_at "gl")
local macro_rules | `(tactic| walk_at "gg") => `(tactic| repeat walk_at "go2")

section
variable {P : Program} {w : World} {K : PySem.W.Frag} {mg : Str → Option Value} {base : Heap}
theorem ok_BadNumber___init__ (T : Tx fxL fnL K mg) : FnR P w K mg base (L2.CX P w) 1 (ma K (ga K "BadNumber") "__init__") (spInit1 (ga K "BadNumber") "given") := by
  refine fun_ok (F_BadNumber___init__ T) sc_BadNumber___init__ (fun _ _ _ _ _ _ us hl => match us, hl with | [_, _], _ => rfl) ?_ ?_
  · rintro vs H Q E ⟨a, v, rfl, _⟩
    rfl
  · rintro cdv A outer s H vs Q E hr ⟨a, v, rfl, ha, q⟩
    refine ⟨_, (pss_one (ps_ost (pv 0) (pv 1))), ?_⟩
    refine g_start (σ := [some (.ref a), some v]) rfl ?_
    exact ⟨_, rfl, _, rfl, a, ga K "BadNumber", rfl, ex_BadNumber T, xn_BadNumber_given T, .inl ⟨ha, fun dx h1 h2 => q dx h1 h2⟩⟩
theorem ok_BadQuestion___init__ (T : Tx fxL fnL K mg) : FnR P w K mg base (L2.CX P w) 1 (ma K (ga K "BadQuestion") "__init__") (spInit1 (ga K "BadQuestion") "place") := by
  refine fun_ok (F_BadQuestion___init__ T) sc_BadQuestion___init__ (fun _ _ _ _ _ _ us hl => match us, hl with | [_, _], _ => rfl) ?_ ?_
  · rintro vs H Q E ⟨a, v, rfl, _⟩
    rfl
  · rintro cdv A outer s H vs Q E hr ⟨a, v, rfl, ha, q⟩
    refine ⟨_, (pss_one (ps_ost (pv 0) (pv 1))), ?_⟩
    refine g_start (σ := [some (.ref a), some v]) rfl ?_
    exact ⟨_, rfl, _, rfl, a, ga K "BadQuestion", rfl, ex_BadQuestion T, xn_BadQuestion_place T, .inl ⟨ha, fun dx h1 h2 => q dx h1 h2⟩⟩
/-! ### objects that keep their arguments -/
def spMk (C : Addr) (n : Nat) : Sp := fun vs H Q _ => ∃ (p dx : Addr) (args : List V), vs = .ref p :: args ∧ args.length = n ∧ H p = some (.ins C dx []) ∧ ∀ H', But p H H' → Q .non H'
theorem same_made {H H' : Hp} {x dx C : Addr} (hx : H x = none) (hd : H dx = none) (b : But x (upd (upd H dx (.own x)) x (.ins C dx [])) H') : Same H H' := fun c o e => b c o (by rw [upd_ne (ne_of_none e hx), upd_ne (ne_of_none e hd)]; exact e) (ne_of_none e hx)
theorem g_made {C : Addr} {n : Nat} {args : List V} {H : Hp} {Q : VK} {E : XK} (hn : args.length = n) (h : ∀ x H', Same H H' → H x = none → Q (.ref x) H') : ∀ x dx, H x = none → H dx = none → dx ≠ x →
    spMk C n (.ref x :: args) (upd (upd H dx (.own x)) x (.ins C dx [])) (fun v H2 => v = .non ∧ Q (.ref x) H2) E :=
  fun x dx hx hd ne => ⟨x, dx, args, rfl, hn, upd_same, fun H' b => ⟨rfl, h x H' (same_made hx hd b) hx⟩⟩
theorem ok_Number___init__ (T : Tx fxL fnL K mg) : FnR P w K mg base (L2.CX P w) 1 (ma K (ga K "Number") "__init__") (spMk (ga K "Number") 1) := by
  refine fun_ok (F_Number___init__ T) sc_Number___init__ (fun _ _ _ _ _ _ us hl => match us, hl with | [_, _], _ => rfl) ?_ ?_
  · rintro vs H Q E ⟨p, dx, args, rfl, hl, _⟩
    simp [hl]
  · rintro cdv A outer s H vs Q E hr ⟨p, dx, args, rfl, hl, hp, q⟩
    obtain ⟨v0, rfl⟩ : ∃ v0, args = [v0] := by
      match args, hl with
      | [v0], _ => exact ⟨v0, rfl⟩
    refine ⟨_, (pss_one (ps_fld (pv 0) (pv 1) rfl)), ?_⟩
    refine g_start (σ := [some (.ref p), some v0]) rfl ?_
    walk_at "gg"
    refine g_put hp (cl_Number T) (na_Number_ratio T) ?_ ?_
    · show 0 < 1000
      decide
    exact q _ fun b o e ne => by rw [upd_ne ne]; exact e
theorem ok_Sum___init__ (T : Tx fxL fnL K mg) : FnR P w K mg base (L2.CX P w) 1 (ma K (ga K "Sum") "__init__") (spMk (ga K "Sum") 2) := by
  refine fun_ok (F_Sum___init__ T) sc_Sum___init__ (fun _ _ _ _ _ _ us hl => match us, hl with | [_, _, _], _ => rfl) ?_ ?_
  · rintro vs H Q E ⟨p, dx, args, rfl, hl, _⟩
    simp [hl]
  · rintro cdv A outer s H vs Q E hr ⟨p, dx, args, rfl, hl, hp, q⟩
    obtain ⟨v0, v1, rfl⟩ : ∃ v0 v1, args = [v0, v1] := by
      match args, hl with
      | [v0, v1], _ => exact ⟨v0, v1, rfl⟩
    refine ⟨_, (pss_cons (ps_fld (pv 0) (pv 1) rfl)
 (pss_one (ps_fld (pv 0) (pv 2) rfl))), ?_⟩
    refine g_start (σ := [some (.ref p), some v0, some v1]) rfl ?_
    walk_at "gg"
    refine g_put hp (cl_Sum T) (na_Sum_left T) ?_ ?_
    · show 0 < 1000
      decide
    walk_at "gg"
    refine g_put upd_same (cl_Sum T) (na_Sum_right T) ?_ ?_
    · show 1 < 1000
      decide
    exact q _ fun b o e ne => by rw [upd_ne ne, upd_ne ne]; exact e
theorem ok_Difference___init__ (T : Tx fxL fnL K mg) : FnR P w K mg base (L2.CX P w) 1 (ma K (ga K "Difference") "__init__") (spMk (ga K "Difference") 2) := by
  refine fun_ok (F_Difference___init__ T) sc_Difference___init__ (fun _ _ _ _ _ _ us hl => match us, hl with | [_, _, _], _ => rfl) ?_ ?_
  · rintro vs H Q E ⟨p, dx, args, rfl, hl, _⟩
    simp [hl]
  · rintro cdv A outer s H vs Q E hr ⟨p, dx, args, rfl, hl, hp, q⟩
    obtain ⟨v0, v1, rfl⟩ : ∃ v0 v1, args = [v0, v1] := by
      match args, hl with
      | [v0, v1], _ => exact ⟨v0, v1, rfl⟩
    refine ⟨_, (pss_cons (ps_fld (pv 0) (pv 1) rfl)
 (pss_one (ps_fld (pv 0) (pv 2) rfl))), ?_⟩
    refine g_start (σ := [some (.ref p), some v0, some v1]) rfl ?_
    walk_at "gg"
    refine g_put hp (cl_Difference T) (na_Difference_left T) ?_ ?_
    · show 0 < 1000
      decide
    walk_at "gg"
    refine g_put upd_same (cl_Difference T) (na_Difference_right T) ?_ ?_
    · show 1 < 1000
      decide
    exact q _ fun b o e ne => by rw [upd_ne ne, upd_ne ne]; exact e
theorem ok_Product___init__ (T : Tx fxL fnL K mg) : FnR P w K mg base (L2.CX P w) 1 (ma K (ga K "Product") "__init__") (spMk (ga K "Product") 2) := by
  refine fun_ok (F_Product___init__ T) sc_Product___init__ (fun _ _ _ _ _ _ us hl => match us, hl with | [_, _, _], _ => rfl) ?_ ?_
  · rintro vs H Q E ⟨p, dx, args, rfl, hl, _⟩
    simp [hl]
  · rintro cdv A outer s H vs Q E hr ⟨p, dx, args, rfl, hl, hp, q⟩
    obtain ⟨v0, v1, rfl⟩ : ∃ v0 v1, args = [v0, v1] := by
      match args, hl with
      | [v0, v1], _ => exact ⟨v0, v1, rfl⟩
    refine ⟨_, (pss_cons (ps_fld (pv 0) (pv 1) rfl)
 (pss_one (ps_fld (pv 0) (pv 2) rfl))), ?_⟩
    refine g_start (σ := [some (.ref p), some v0, some v1]) rfl ?_
    walk_at "gg"
    refine g_put hp (cl_Product T) (na_Product_left T) ?_ ?_
    · show 0 < 1000
      decide
    walk_at "gg"
    refine g_put upd_same (cl_Product T) (na_Product_right T) ?_ ?_
    · show 1 < 1000
      decide
    exact q _ fun b o e ne => by rw [upd_ne ne, upd_ne ne]; exact e
theorem ok_Least___init__ (T : Tx fxL fnL K mg) : FnR P w K mg base (L2.CX P w) 1 (ma K (ga K "Least") "__init__") (spMk (ga K "Least") 2) := by
  refine fun_ok (F_Least___init__ T) sc_Least___init__ (fun _ _ _ _ _ _ us hl => match us, hl with | [_, _, _], _ => rfl) ?_ ?_
  · rintro vs H Q E ⟨p, dx, args, rfl, hl, _⟩
    simp [hl]
  · rintro cdv A outer s H vs Q E hr ⟨p, dx, args, rfl, hl, hp, q⟩
    obtain ⟨v0, v1, rfl⟩ : ∃ v0 v1, args = [v0, v1] := by
      match args, hl with
      | [v0, v1], _ => exact ⟨v0, v1, rfl⟩
    refine ⟨_, (pss_cons (ps_fld (pv 0) (pv 1) rfl)
 (pss_one (ps_fld (pv 0) (pv 2) rfl))), ?_⟩
    refine g_start (σ := [some (.ref p), some v0, some v1]) rfl ?_
    walk_at "gg"
    refine g_put hp (cl_Least T) (na_Least_left T) ?_ ?_
    · show 0 < 1000
      decide
    walk_at "gg"
    refine g_put upd_same (cl_Least T) (na_Least_right T) ?_ ?_
    · show 1 < 1000
      decide
    exact q _ fun b o e ne => by rw [upd_ne ne, upd_ne ne]; exact e
theorem ok_Greatest___init__ (T : Tx fxL fnL K mg) : FnR P w K mg base (L2.CX P w) 1 (ma K (ga K "Greatest") "__init__") (spMk (ga K "Greatest") 2) := by
  refine fun_ok (F_Greatest___init__ T) sc_Greatest___init__ (fun _ _ _ _ _ _ us hl => match us, hl with | [_, _, _], _ => rfl) ?_ ?_
  · rintro vs H Q E ⟨p, dx, args, rfl, hl, _⟩
    simp [hl]
  · rintro cdv A outer s H vs Q E hr ⟨p, dx, args, rfl, hl, hp, q⟩
    obtain ⟨v0, v1, rfl⟩ : ∃ v0 v1, args = [v0, v1] := by
      match args, hl with
      | [v0, v1], _ => exact ⟨v0, v1, rfl⟩
    refine ⟨_, (pss_cons (ps_fld (pv 0) (pv 1) rfl)
 (pss_one (ps_fld (pv 0) (pv 2) rfl))), ?_⟩
    refine g_start (σ := [some (.ref p), some v0, some v1]) rfl ?_
    walk_at "gg"
    refine g_put hp (cl_Greatest T) (na_Greatest_left T) ?_ ?_
    · show 0 < 1000
      decide
    walk_at "gg"
    refine g_put upd_same (cl_Greatest T) (na_Greatest_right T) ?_ ?_
    · show 1 < 1000
      decide
    exact q _ fun b o e ne => by rw [upd_ne ne, upd_ne ne]; exact e
theorem ok_Comparison___init__ (T : Tx fxL fnL K mg) : FnR P w K mg base (L2.CX P w) 1 (ma K (ga K "Comparison") "__init__") (spMk (ga K "Comparison") 2) := by
  refine fun_ok (F_Comparison___init__ T) sc_Comparison___init__ (fun _ _ _ _ _ _ us hl => match us, hl with | [_, _, _], _ => rfl) ?_ ?_
  · rintro vs H Q E ⟨p, dx, args, rfl, hl, _⟩
    simp [hl]
  · rintro cdv A outer s H vs Q E hr ⟨p, dx, args, rfl, hl, hp, q⟩
    obtain ⟨v0, v1, rfl⟩ : ∃ v0 v1, args = [v0, v1] := by
      match args, hl with
      | [v0, v1], _ => exact ⟨v0, v1, rfl⟩
    refine ⟨_, (pss_cons (ps_fld (pv 0) (pv 1) rfl)
 (pss_one (ps_fld (pv 0) (pv 2) rfl))), ?_⟩
    refine g_start (σ := [some (.ref p), some v0, some v1]) rfl ?_
    walk_at "gg"
    refine g_put hp (cl_Comparison T) (na_Comparison_left T) ?_ ?_
    · show 0 < 1000
      decide
    walk_at "gg"
    refine g_put upd_same (cl_Comparison T) (na_Comparison_right T) ?_ ?_
    · show 1 < 1000
      decide
    exact q _ fun b o e ne => by rw [upd_ne ne, upd_ne ne]; exact e
end
end My
namespace TxtA
open PySem PySem.Spec PyProof.Rows L2 Go TL NumT
theorem inV_strs {x : Str} : ∀ {ys : List Str}, inV (.str x) (ys.map V.str) = decide (x ∈ ys)
  | [] => rfl
  | y :: ys => by
    have ih := inV_strs (x := x) (ys := ys)
    unfold inV at ih ⊢
    rw [List.map_cons, List.any_cons, ih]
    have e : eqV (.str y) (.str x) = decide (y = x) := by
      show _ = _
      first
        | rfl
        | (unfold eqV; simp)
    rw [e]
    by_cases h : y = x
    · subst h; simp
    · have h2 : ¬ x = y := fun e => h e.symm
      rw [decide_eq_false h, Bool.false_or]
      exact decide_eq_decide.mpr (by simp [h2])
theorem flat_strs : ∀ {ys : List Str}, (ys.map V.str).all flatV = true
  | [] => rfl
  | y :: ys => by rw [List.map_cons, List.all_cons, flat_strs (ys := ys)]; rfl
theorem slash_tl : tl ("/" : Str) = [47] := by decide +kernel
theorem space_tl : tl (" " : Str) = [32] := by decide +kernel
theorem part_slash (x : Str) : Txt.partition x ("/" : Str) = (match par [47] [] (tl x) with | some (a, b) => (⟨a.toArray⟩, ("/" : Str), ⟨b.toArray⟩) | none => (x, Str.empty, Str.empty)) := by
  rw [partition_par x _ (by rw [slash_tl]; simp), slash_tl]
  cases par [47] [] (tl x) with
  | none => rfl
  | some p => rfl
theorem par_len : ∀ (S acc l : List Nat) (a b : List Nat), par S acc l = some (a, b) → a.length + b.length ≤ acc.length + l.length
  | S, acc, [], a, b, h => by cases h
  | S, acc, c :: r, a, b, h => by
    by_cases hp : pre S (c :: r) = true
    · rw [par_hit hp] at h
      have e := Option.some.inj h
      injection e with e1 e2
      subst e1 e2
      rw [List.length_drop]
      omega
    · rw [par_miss (Bool.eq_false_iff.mpr hp)] at h
      have := par_len S (acc ++ [c]) r a b h
      rw [List.length_append, List.length_singleton] at this
      rw [List.length_cons]
      omega
/-- what Ratio.read lets, and its value -/
def okR (l : List Nat) : Bool := decide (l.length ≤ 2000) && match par [47] [] l with
  | none => okW true l
  | some (a, b) => okW true a && (okW false b && (decide (2 ≤ wval b) && !decide (1 < Nat.gcd (wval a).natAbs (wval b).natAbs)))
def valR (l : List Nat) : Rat := match par [47] [] l with
  | none => Rat.divInt (wval l) 1
  | some (a, b) => Rat.divInt (wval a) (wval b)
/-- how large a number of so many signs is -/
theorem natOf_lt : ∀ (l : List Nat) (a : Nat), l.all isD = true → l.foldl (fun a c => a * 10 + (c - 48)) a < (a + 1) * 10 ^ l.length
  | [], a, _ => by simp
  | c :: l, a, h => by
    rw [List.all_cons, Bool.and_eq_true] at h
    have q := isD_iff.mp h.1
    have ih := natOf_lt l (a * 10 + (c - 48)) h.2
    rw [List.foldl_cons, List.length_cons, Nat.pow_succ]
    refine Nat.lt_of_lt_of_le ih ?_
    have : (a * 10 + (c - 48) + 1) ≤ (a + 1) * 10 := by omega
    calc (a * 10 + (c - 48) + 1) * 10 ^ l.length ≤ ((a + 1) * 10) * 10 ^ l.length := Nat.mul_le_mul_right _ this
      _ = (a + 1) * (10 ^ l.length * 10) := by rw [Nat.mul_assoc, Nat.mul_comm 10]
theorem wval_lt {l : List Nat} (h : whW l = true) : (wval l).natAbs < 10 ^ l.length := by
  rcases whW_cases h with ⟨h1, e⟩ | ⟨r, e, h1, _, e2⟩
  · rw [e]
    have := natOf_lt l 0 (digW_all h1).1
    rw [Nat.zero_add, Nat.one_mul] at this
    unfold natOf
    simpa using this
  · rw [e2, e]
    have := natOf_lt r 0 (digW_all h1).1
    rw [Nat.zero_add, Nat.one_mul] at this
    rw [Int.natAbs_neg, Int.natAbs_natCast, List.length_cons]
    exact Nat.lt_of_lt_of_le this (Nat.pow_le_pow_right (by decide) (Nat.le_succ _))
theorem log10_2000 {n : Nat} (h : n < 10 ^ 2001) : n.log2 < 9000 := by
  rcases Nat.eq_zero_or_pos n with rfl | hp
  · decide
  · have : n < 2 ^ 9000 := Nat.lt_of_lt_of_le h (by decide +kernel)
    exact (Nat.log2_lt (by omega)).mpr this
end TxtA
namespace My
open PySem PySem.Spec PyProof.Rows L2 He He5 Go NumT RatA TL TxtA
local macro_rules | `(tactic| walk_at "gv") => `(tactic| first
  | with_reducible refine g_v0 ?_ | with_reducible refine g_v1 ?_ | with_reducible refine g_v2 ?_ | with_reducible refine g_v3 ?_ | with_reducible refine g_v4 ?_ | with_reducible refine g_v5 ?_
  | with_reducible refine g_v6 ?_ | with_reducible refine g_v7 ?_ | with_reducible refine g_v8 ?_ | with_reducible refine g_v9 ?_ | with_reducible refine g_v10 ?_ | with_reducible refine g_v11 ?_ | with_reducible refine g_v12 ?_)
local macro_rules | `(tactic| walk_at "gn") => `(tactic| first
  | with_reducible refine g_n0 ?_ | with_reducible refine g_n1 ?_ | with_reducible refine g_n2 ?_ | with_reducible refine g_n3 ?_ | with_reducible refine g_n4 ?_ | with_reducible refine g_n5 ?_
  | with_reducible refine g_n6 ?_ | with_reducible refine g_n7 ?_ | with_reducible refine g_n8 ?_ | with_reducible refine g_n9 ?_ | with_reducible refine g_n10 ?_ | with_reducible refine g_n11 ?_ | with_reducible refine g_n12 ?_)
local macro_rules | `(tactic| walk_at "gs") => `(tactic| first
  | with_reducible refine g_asg ?_ | with_reducible refine g_ret ?_ | with_reducible refine g_if ?_ | with_reducible refine g_drop ?_ | with_reducible refine g_next ?_
  | with_reducible refine g_retN ?_ | with_reducible refine g_brk ?_ | with_reducible refine g_cont ?_ | with_reducible refine g_forA ?_ | with_reducible refine g_sfld ?_)
local macro_rules | `(tactic| walk_at "ge") => `(tactic| first
  | with_reducible refine g_c ?_ | with_reducible refine g_op ?_ | with_reducible refine g_test ?_ | with_reducible refine g_bl ?_ | with_reducible refine g_tB ?_ | with_reducible refine g_not ?_
  | with_reducible refine g_and ?_ | with_reducible refine g_or ?_ | with_reducible refine g_notV ?_ | with_reducible refine g_andV ?_ | with_reducible refine g_orV ?_ | with_reducible refine g_ifE ?_
  | with_reducible refine g_un ?_ | with_reducible refine g_chain ?_ | with_reducible refine g_nil ?_ | with_reducible refine g_cons ?_ | with_reducible refine g_tup ?_ | with_reducible refine g_lst ?_
  | with_reducible refine g_cb ?_ | with_reducible refine g_call ?_ | with_reducible refine g_cmeth ?_ | with_reducible refine g_make ?_ | with_reducible refine g_noPart ?_ | with_reducible refine g_part ?_
  | with_reducible refine g_partI ?_ | with_reducible refine g_sl ?_ | with_reducible refine g_m1 ?_ | with_reducible refine g_m0 ?_ | with_reducible refine g_isS ?_ | with_reducible refine g_gsub ?_
  | with_reducible refine g_gcons ?_ | with_reducible refine g_gnil ?_ | with_reducible refine g_bm ?_ | with_reducible refine g_bm0 ?_ | with_reducible refine g_mk ?_ | with_reducible refine g_lc ?_ | with_reducible refine g_fld ?_ | with_reducible refine g_yes ?_)
local macro_rules | `(tactic| walk_at "go_") => `(tactic| first
  | with_reducible refine g_addI ?_ | with_reducible refine g_subI ?_ | with_reducible refine g_ltI ?_ | with_reducible refine g_leI ?_ | with_reducible refine g_gtI ?_ | with_reducible refine g_geI ?_
  | with_reducible refine g_eqI ?_ | with_reducible refine g_eqS ?_ | with_reducible refine g_neI ?_ | with_reducible refine g_neS ?_
  | with_reducible refine g_isNn ?_ | with_reducible refine g_isNi ?_ | with_reducible refine g_isNs ?_ | with_reducible refine g_isNr ?_
  | with_reducible refine g_notNn ?_ | with_reducible refine g_notNi ?_ | with_reducible refine g_notNs ?_ | with_reducible refine g_notNr ?_ | with_reducible refine g_neg ?_
  | with_reducible refine g_inS ?_ | with_reducible refine g_niS ?_ | with_reducible refine g_iteT ?_ | with_reducible refine g_iteF ?_ | with_reducible refine g_iteNT ?_ | with_reducible refine g_iteNF ?_
  | with_reducible refine g_intI ?_ | with_reducible refine g_intB ?_ | with_reducible refine g_gcd ?_ | with_reducible refine g_max2 ?_ | with_reducible refine g_min2 ?_ | with_reducible refine g_stw ?_ | with_reducible refine g_abs ?_
  | with_reducible refine g_iStr ?_ | with_reducible refine g_exS ?_ | with_reducible refine g_iList ?_ | with_reducible refine g_iTup ?_ | with_reducible refine g_iR1 ?_ | with_reducible refine g_iR2 ?_ | with_reducible refine g_exR1 (by omega) (by omega) ?_ | with_reducible refine g_exR2 (by omega) ?_)
local macro_rules | `(tactic| walk_at "go1") => `(tactic| first | walk_at "gs" | with_reducible refine g_seq ?_ | walk_at "gv" | walk_at "ge" | walk_at "gn" | walk_at "go_")
local macro_rules | `(tactic| walk_at "go") => `(tactic| repeat walk_at "go1")
local macro_rules | `(tactic| walk_at "gl") => `(tactic| first
  | with_reducible refine g_lenS (by assumption) ?_ | with_reducible refine g_lenL (by assumption) ?_ | with_reducible refine g_lenT (by assumption) ?_ | with_reducible refine g_exL (by assumption) ?_ | with_reducible refine g_exT (by assumption) ?_)
local macro_rules | `(tactic| walk_at "gw") => `(tactic| repeat (first | walk_at "gs" | walk_at "gv" | walk_at "ge" | walk_at "gn" | walk_at "go_" | walk_at "gl"))
local macro_rules | `(tactic| walk_at "go2") => `(tactic| first | walk_at "go1" | walk_at "gl")
local macro_rules | `(tactic| walk_at "gg") => `(tactic| repeat walk_at "go2")

section
variable {P : Program} {w : World} {K : PySem.W.Frag} {mg : Str → Option Value} {base : Heap}
/-! ### words_of, is_node, is_measure, Measure -/
def spWords : Sp := fun vs H Q _ => ∃ x : Str, vs = [.str x] ∧ x.length + 2 ≤ sizeLine ∧ ∀ l, H l = none → Q (.ref l) (upd H l (.lst ((Txt.split x " ").map V.str)))
theorem ok_words_of (T : Tx fxL fnL K mg) : FnR P w K mg base (L2.CX P w) 1 (ga K "words_of") spWords := by
  refine fun_ok (F_words_of T) sc_words_of (fun _ _ _ _ _ _ us hl => match us, hl with | [_], _ => rfl) ?_ ?_
  · rintro vs H Q E ⟨x, rfl, _⟩
    rfl
  · rintro cdv A outer s H vs Q E hr ⟨x, rfl, hz, q⟩
    refine ⟨_, (pss_one (ps_ret (pe_m1 PySem.F.slot_str_split PySem.F.type_str_split m_split (pv 0) pe_str))), ?_⟩
    refine g_start (σ := [some (.str x)]) rfl ?_
    walk_at "gg"
    exact g_split (by decide +kernel) hz q
theorem ok_is_node (T : Tx fxL fnL K mg) : FnR P w K mg base (L2.CX P w) 2 (ga K "is_node") spLab := by
  refine fun_ok (F_is_node T) sc_is_node (fun _ _ _ _ _ _ us hl => match us, hl with | [_], _ => rfl) ?_ ?_
  · rintro vs H Q E ⟨x, rfl, _⟩
    rfl
  · rintro cdv A outer s H vs Q E hr ⟨x, rfl, hz, q⟩
    refine ⟨_, (pss_one (ps_ret (pe_callF ((ok_is_label T).mono (by decide)) hr (takes_of rfl rfl rfl rfl) (by rfl) (gm_is_label T) (k_is_label T) (pa_cons (pv 0) pa_nil)))), ?_⟩
    refine g_start (σ := [some (.str x)]) rfl ?_
    walk_at "gg"
    exact ⟨x, rfl, hz, q⟩
def meaB : List Str := ["energy", "power", "pull"]
def meaN : List Str := ["cut", "resistance", "forests"]
def meaK : List Str := ["determinant", "cost"]
def isMea (x : Str) : Bool := decide (x ∈ meaB) || (decide (x ∈ meaN) || decide (x ∈ meaK))
def spMea : Sp := fun vs H Q _ => ∃ x : Str, vs = [.str x] ∧ Q (.bl (isMea x)) H
theorem ok_is_measure (T : Tx fxL fnL K mg) : FnR P w K mg base (L2.CX P w) 1 (ga K "is_measure") spMea := by
  refine fun_ok (F_is_measure T) sc_is_measure (fun _ _ _ _ _ _ us hl => match us, hl with | [_], _ => rfl) ?_ ?_
  · rintro vs H Q E ⟨x, rfl, _⟩
    rfl
  · rintro cdv A outer s H vs Q E hr ⟨x, rfl, q⟩
    refine ⟨_, (pss_one (ps_ret (pe_or (pe_cmpR o_in (pv 0) (pe_globE (by rfl) (cx_FOR_BOTH_KINDS T)) (by rfl)) (pe_or (pe_cmpR o_in (pv 0) (pe_globE (by rfl) (cx_FOR_NETS_ONLY T)) (by rfl)) (pe_one (pe_cmpR o_in (pv 0) (pe_globE (by rfl) (cx_FOR_BOOKS_ONLY T)) (by rfl))))))), ?_⟩
    refine g_start (σ := [some (.str x)]) rfl ?_
    walk_at "gg"
    refine g_inT (show SqT K H (ga K "FOR_BOTH_KINDS") (meaB.map V.str) from ct_FOR_BOTH_KINDS T H) rfl flat_strs ?_
    walk_at "gg"
    rw [inV_strs]
    refine g_ite (fun c => ?_) (fun c => ?_)
    · unfold isMea at q
      rw [decide_eq_true c] at q
      exact q
    · walk_at "gg"
      refine g_inT (show SqT K H (ga K "FOR_NETS_ONLY") (meaN.map V.str) from ct_FOR_NETS_ONLY T H) rfl flat_strs ?_
      walk_at "gg"
      rw [inV_strs]
      refine g_ite (fun d => ?_) (fun d => ?_)
      · unfold isMea at q
        rw [decide_eq_false c, decide_eq_true d] at q
        exact q
      · walk_at "gg"
        refine g_inT (show SqT K H (ga K "FOR_BOOKS_ONLY") (meaK.map V.str) from ct_FOR_BOOKS_ONLY T H) rfl flat_strs ?_
        rw [inV_strs]
        unfold isMea at q
        rw [decide_eq_false c, decide_eq_false d] at q
        exact q
def spMeaMk (K : PySem.W.Frag) : Sp := fun vs H Q _ => ∃ (p dx a b t : Addr) (u v : V) (xs : List V), vs = [.ref p, u, v, .ref t] ∧ SqT K H t xs ∧ H p = some (.ins (ga K "Measure") dx []) ∧ t ≠ p ∧ ∀ H', But p H H' → Q .non H'
theorem sqT_upd {H : Hp} {t p : Addr} {o : HO} {xs : List V} (h : SqT K H t xs) (ne : t ≠ p) : SqT K (upd H p o) t xs := by
  rcases h with (h | ⟨o', h⟩) | h
  · exact .inl (.inl (by rw [upd_ne ne]; exact h))
  · exact .inl (.inr ⟨o', by rw [upd_ne ne]; exact h⟩)
  · exact .inr h
theorem ok_Measure___init__ (T : Tx fxL fnL K mg) : FnR P w K mg base (L2.CX P w) 1 (ma K (ga K "Measure") "__init__") (spMeaMk K) := by
  refine fun_ok (F_Measure___init__ T) sc_Measure___init__ (fun _ _ _ _ _ _ us hl => match us, hl with | [_, _, _, _], _ => rfl) ?_ ?_
  · rintro vs H Q E ⟨p, dx, a, b, t, u, v, xs, rfl, _⟩
    rfl
  · rintro cdv A outer s H vs Q E hr ⟨p, dx, a, b, t, u, v, xs, rfl, ht, hp, ne, q⟩
    refine ⟨_, (pss_cons (ps_fld (pv 0) (pv 1) rfl)
 (pss_cons (ps_fld (pv 0) (pv 2) rfl)
 (pss_one (ps_fld (pv 0) (pe_callTy b_tuple (by rfl) (z_tuple T) (by decide +kernel) (pa_cons (pv 3) pa_nil)) rfl)))), ?_⟩
    refine g_start (σ := [some (.ref p), some u, some v, some (.ref t)]) rfl ?_
    walk_at "gg"
    refine g_put hp (cl_Measure T) (na_Measure_word T) ?_ ?_
    · show 0 < 1000
      decide
    walk_at "gg"
    refine g_put upd_same (cl_Measure T) (na_Measure_name T) ?_ ?_
    · show 1 < 1000
      decide
    walk_at "gg"
    refine g_tupT (sqT_upd (sqT_upd ht ne) ne) ?_
    walk_at "gg"
    refine g_put upd_same (cl_Measure T) (na_Measure_things T) ?_ ?_
    · show 2 < 1000
      decide
    exact q _ fun b o e ne => by rw [upd_ne ne, upd_ne ne, upd_ne ne]; exact e
/-! ### Ratio.read -/
def spRead (K : PySem.W.Frag) : Sp := fun vs H Q E => ∃ x : Str, vs = [.ref (ga K "Ratio"), .str x] ∧ x.length ≤ sizeLine ∧
  (okR (tl x) = true → ∀ p H', Same H H' → H p = none → RatAt (ga K "Ratio") H' p (valR (tl x)) → Q (.ref p) H') ∧
  (okR (tl x) = false → ∀ d H', Same H H' → H d = none → H' d = some (.xd [("given", .str x)]) → E (.ref (ga K "BadNumber")) (some d) H')
theorem same_new {H : Hp} {p : Addr} (h : H p = none) (o : HO) : Same H (upd H p o) := fun b u q => by rw [upd_ne (ne_of_none q h)]; exact q
theorem part3 (x : Str) : ∃ a m b, Txt.partition x ("/" : Str) = (a, m, b) ∧ ((m = ("" : Str) ∧ par [47] [] (tl x) = none ∧ a = x) ∨ (m = ("/" : Str) ∧ par [47] [] (tl x) = some (tl a, tl b) ∧ a.length ≤ x.length ∧ b.length ≤ x.length)) := by
  have h := part_slash x
  cases e : par [47] [] (tl x) with
  | none =>
    rw [e] at h
    exact ⟨_, _, _, h, .inl ⟨rfl, rfl, rfl⟩⟩
  | some p =>
    obtain ⟨a, b⟩ := p
    rw [e] at h
    have := par_len _ _ _ _ _ e
    rw [List.length_nil, Nat.zero_add] at this
    refine ⟨_, _, _, h, .inr ⟨rfl, rfl, ?_, ?_⟩⟩
    · rw [len_tl x]
      show a.toArray.size ≤ _
      rw [List.size_toArray]
      omega
    · rw [len_tl x]
      show b.toArray.size ≤ _
      rw [List.size_toArray]
      omega
theorem okR_none {l : List Nat} (hl : l.length ≤ 2000) (h : par [47] [] l = none) : okR l = okW true l := by
  unfold okR
  rw [decide_eq_true hl, h]
  rfl
theorem okR_some {l a b : List Nat} (hl : l.length ≤ 2000) (h : par [47] [] l = some (a, b)) : okR l = (okW true a && (okW false b && (decide (2 ≤ wval b) && !decide (1 < Nat.gcd (wval a).natAbs (wval b).natAbs)))) := by
  unfold okR
  rw [decide_eq_true hl, h]
  rfl
theorem valR_none {l : List Nat} (h : par [47] [] l = none) : valR l = Rat.divInt (wval l) 1 := by
  unfold valR
  rw [h]
theorem valR_some {l a b : List Nat} (h : par [47] [] l = some (a, b)) : valR l = Rat.divInt (wval a) (wval b) := by
  unfold valR
  rw [h]
theorem ok_Ratio_read (T : Tx fxL fnL K mg) : FnR P w K mg base (L2.CX P w) 3 (wf K (ga K "Ratio") "classmethod" "read") (spRead K) := by
  refine fun_ok (F_Ratio_read T) sc_Ratio_read (fun _ _ _ _ _ _ us hl => match us, hl with | [_, _], _ => rfl) ?_ ?_
  · rintro vs H Q E ⟨x, rfl, _⟩
    rfl
  · rintro cdv A outer s H vs Q E hr ⟨x, rfl, hz, q1, q2⟩
    refine ⟨_, (pss_cons (ps_if (pt_cmpR o_gt (pe_callB b_len (by rfl) (z_len T) (by decide +kernel) (pa_cons (pv 1) pa_nil)) (pe_globE (by rfl) (cx_MOST_CHARACTERS T)) (nomark _)) (pss_one (ps_raise rfl (takes_of rfl rfl rfl rfl) (pmk_oexF (ex_BadNumber T) (ii_BadNumber T) (it_BadNumber T) ((ok_BadNumber___init__ T).mono (by decide)) hr (by rfl) (gm_BadNumber T) (pa_cons (pv 1) pa_nil)))) pss_nil)
 (pss_cons (ps_asg (pe_m1 PySem.F.slot_str_partition PySem.F.type_str_partition m_part (pv 1) pe_str) (pg_tup rfl (pgs_cons (pg_name (i := 2) sc_Ratio_read.nd rfl (Or.inl rfl)) (pgs_cons (pg_name (i := 3) sc_Ratio_read.nd rfl (Or.inl rfl)) (pgs_cons (pg_name (i := 4) sc_Ratio_read.nd rfl (Or.inl rfl)) pgs_nil)))))
 (pss_cons (ps_set (i := 5) sc_Ratio_read.nd rfl (Or.inl rfl) (pe_callF ((ok_whole_of T).mono (by decide)) hr (takes_of rfl rfl rfl rfl) (by rfl) (gm_whole_of T) (k_whole_of T) (pa_cons (pv 2) (pa_cons pe_bl pa_nil))))
 (pss_cons (ps_if (pt_cmpR o_isN (pv 5) pe_non (nomark _)) (pss_one (ps_raise rfl (takes_of rfl rfl rfl rfl) (pmk_oexF (ex_BadNumber T) (ii_BadNumber T) (it_BadNumber T) ((ok_BadNumber___init__ T).mono (by decide)) hr (by rfl) (gm_BadNumber T) (pa_cons (pv 1) pa_nil)))) pss_nil)
 (pss_cons (ps_if (pt_cmpR (o_eq hr.units) (pv 3) pe_str (nomark _)) (pss_one (ps_ret (pe_makeLF (i := 0) (mk_Ratio T) ((ok_Ratio___init__2 T).mono (by decide)) hr (takes_of rfl rfl rfl rfl) rfl (Or.inl rfl) (pa_cons (pv 5) pa_nil)))) pss_nil)
 (pss_cons (ps_set (i := 6) sc_Ratio_read.nd rfl (Or.inl rfl) (pe_callF ((ok_whole_of T).mono (by decide)) hr (takes_of rfl rfl rfl rfl) (by rfl) (gm_whole_of T) (k_whole_of T) (pa_cons (pv 4) (pa_cons pe_bl pa_nil))))
 (pss_cons (ps_if (PW.pt (pw_or (pt_cmpR o_isN (pv 6) pe_non (nomark _)) (pw_or1 (pt_cmpR o_lt (pv 6) pe_int (nomark _))))) (pss_one (ps_raise rfl (takes_of rfl rfl rfl rfl) (pmk_oexF (ex_BadNumber T) (ii_BadNumber T) (it_BadNumber T) ((ok_BadNumber___init__ T).mono (by decide)) hr (by rfl) (gm_BadNumber T) (pa_cons (pv 1) pa_nil)))) pss_nil)
 (pss_cons (ps_if (pt_cmpR o_gt (pe_callBfun cr_gcd (by rfl) (gm_gcd T) (pa_cons (pv 5) (pa_cons (pv 6) pa_nil))) pe_int (nomark _)) (pss_one (ps_raise rfl (takes_of rfl rfl rfl rfl) (pmk_oexF (ex_BadNumber T) (ii_BadNumber T) (it_BadNumber T) ((ok_BadNumber___init__ T).mono (by decide)) hr (by rfl) (gm_BadNumber T) (pa_cons (pv 1) pa_nil)))) pss_nil)
 (pss_one (ps_ret (pe_makeLF (i := 0) (mk_Ratio T) ((ok_Ratio___init__ T).mono (by decide)) hr (takes_of rfl rfl rfl rfl) rfl (Or.inl rfl) (pa_cons (pv 5) (pa_cons (pv 6) pa_nil))))))))))))), ?_⟩
    refine g_start (σ := [some (.ref (ga K "Ratio")), some (.str x), none, none, none, none, none]) rfl ?_
    have bad : ∀ H', Same H H' → okR (tl x) = false → ([V.str x] : List V).length ≤ 1000 ∧ ∀ a, H' a = none → spInit1 (ga K "BadNumber") "given" [.ref a, .str x] (upd H' a (exo a (ga K "BadNumber") none))
      (fun v H2 => v = .non ∧ ∃ (d : Addr) (fs : List (Str × V)), H2 a = some (exo a (ga K "BadNumber") (some d)) ∧ H2 d = some (exd d fs) ∧ H' d = none ∧ E (.ref (ga K "BadNumber")) (some d) (upd (del H2 a) d (.xd fs))) (fun _ _ _ => False) :=
      fun H' sm hk => g_raised fun d H2 s2 hd hx => q2 hk d H2 (sm.trans s2) (sm.free hd) hx
    refine g_seqK (fun σ' H' => H' = H ∧ (tl x).length ≤ 2000 ∧ σ' = [some (.ref (ga K "Ratio")), some (.str x), none, none, none, none, none]) ?_ ?_
    · rintro σ' H' ⟨rfl, hx, rfl⟩
      refine g_seq ?_
      walk_at "gw"
      refine g_part3 (by decide +kernel) hz fun l hl => ?_
      obtain ⟨a, m, b, hp, ho⟩ := part3 x
      rw [hp]
      dsimp only
      have s1 := same_new hl (.tup [.str a, .str m, .str b])
      walk_at "gw"
      refine g_gtup (.inl (.inl upd_same)) rfl ?_
      walk_at "gw"
      rcases ho with ⟨rfl, hn, rfl⟩ | ⟨rfl, hn, la, lb⟩
      · rw [okR_none hx hn] at q1 q2 bad
        rw [valR_none hn] at q1
        walk_at "gg"
        refine ⟨_, true, rfl, hz, fun hk => ?_, fun hk => ?_⟩
        · walk_at "gg"
          refine g_iteP rfl ?_
          walk_at "gg"
          refine ⟨rfl, ?_⟩
          walk_at "gg"
          intro p dx hp1 hd1 ne
          refine ⟨p, dx, _, rfl, upd_same, fun H2 b e => ⟨rfl, q1 hk p H2 (s1.trans (same_made hp1 hd1 b)) (s1.free hp1) ⟨_, e⟩⟩⟩
        · walk_at "gg"
          exact bad _ s1 hk
      · rw [okR_some hx hn] at q1 q2 bad
        rw [valR_some hn] at q1
        walk_at "gg"
        refine ⟨_, true, rfl, Nat.le_trans la hz, fun hk => ?_, fun hk => ?_⟩
        · walk_at "gg"
          refine g_iteM (by decide) ?_
          walk_at "gg"
          refine ⟨_, false, rfl, Nat.le_trans lb hz, fun hk2 => ?_, fun hk2 => ?_⟩
          · rw [hk, hk2] at q1 q2 bad
            obtain ⟨wb, lb2⟩ := okW_whole hk2
            have lg : (wval (tl b)).natAbs.log2 < 9000 := log10_2000 (Nat.lt_of_lt_of_le (wval_lt wb) (Nat.pow_le_pow_right (by decide) lb2))
            walk_at "gg"
            refine g_ite (fun c => ?_) (fun c => ?_)
            · walk_at "gg"
              refine bad _ s1 ?_
              rw [decide_eq_false (by omega)]
              rfl
            · rw [decide_eq_true (p := 2 ≤ wval (tl b)) (by omega)] at q1 q2 bad
              walk_at "gg"
              refine g_ite (fun c2 => ?_) (fun c2 => ?_)
              · walk_at "gg"
                refine bad _ s1 ?_
                rw [decide_eq_true (by omega)]
                rfl
              · walk_at "gg"
                refine ⟨rfl, ?_⟩
                walk_at "gg"
                intro p dx hp1 hd1 ne
                refine ⟨p, dx, _, _, rfl, upd_same, by omega, lg, fun H2 b e => ⟨rfl, q1 (by rw [decide_eq_false (by omega)]; rfl) p H2 (s1.trans (same_made hp1 hd1 b)) (s1.free hp1) ⟨_, e⟩⟩⟩
          · rw [hk, hk2] at bad
            walk_at "gg"
            exact bad _ s1 rfl
        · walk_at "gg"
          refine bad _ s1 ?_
          rw [hk]
          rfl
    · intro N hN
      walk_at "gg"
      refine g_ite (fun c => ?_) (fun c => ?_)
      · walk_at "gg"
        refine bad H (Same.refl H) ?_
        unfold okR
        rw [decide_eq_false (by rw [← len_tl]; omega)]
        rfl
      · walk_at "gg"
        exact hN _ _ ⟨rfl, by rw [← len_tl]; omega, rfl⟩
end
end My
namespace My
open PySem PySem.Spec PyProof.Rows L2 He He5 Go NumT RatA TL TxtA
local macro_rules | `(tactic| walk_at "gv") => `(tactic| first
  | with_reducible refine g_v0 ?_ | with_reducible refine g_v1 ?_ | with_reducible refine g_v2 ?_ | with_reducible refine g_v3 ?_ | with_reducible refine g_v4 ?_ | with_reducible refine g_v5 ?_
  | with_reducible refine g_v6 ?_ | with_reducible refine g_v7 ?_ | with_reducible refine g_v8 ?_ | with_reducible refine g_v9 ?_ | with_reducible refine g_v10 ?_ | with_reducible refine g_v11 ?_ | with_reducible refine g_v12 ?_)
local macro_rules | `(tactic| walk_at "gn") => `(tactic| first
  | with_reducible refine g_n0 ?_ | with_reducible refine g_n1 ?_ | with_reducible refine g_n2 ?_ | with_reducible refine g_n3 ?_ | with_reducible refine g_n4 ?_ | with_reducible refine g_n5 ?_
  | with_reducible refine g_n6 ?_ | with_reducible refine g_n7 ?_ | with_reducible refine g_n8 ?_ | with_reducible refine g_n9 ?_ | with_reducible refine g_n10 ?_ | with_reducible refine g_n11 ?_ | with_reducible refine g_n12 ?_)
local macro_rules | `(tactic| walk_at "gs") => `(tactic| first
  | with_reducible refine g_asg ?_ | with_reducible refine g_ret ?_ | with_reducible refine g_if ?_ | with_reducible refine g_drop ?_ | with_reducible refine g_next ?_
  | with_reducible refine g_retN ?_ | with_reducible refine g_brk ?_ | with_reducible refine g_cont ?_ | with_reducible refine g_forA ?_ | with_reducible refine g_sfld ?_)
local macro_rules | `(tactic| walk_at "ge") => `(tactic| first
  | with_reducible refine g_c ?_ | with_reducible refine g_op ?_ | with_reducible refine g_test ?_ | with_reducible refine g_bl ?_ | with_reducible refine g_tB ?_ | with_reducible refine g_not ?_
  | with_reducible refine g_and ?_ | with_reducible refine g_or ?_ | with_reducible refine g_notV ?_ | with_reducible refine g_andV ?_ | with_reducible refine g_orV ?_ | with_reducible refine g_ifE ?_
  | with_reducible refine g_un ?_ | with_reducible refine g_chain ?_ | with_reducible refine g_nil ?_ | with_reducible refine g_cons ?_ | with_reducible refine g_tup ?_ | with_reducible refine g_lst ?_
  | with_reducible refine g_cb ?_ | with_reducible refine g_call ?_ | with_reducible refine g_cmeth ?_ | with_reducible refine g_make ?_ | with_reducible refine g_noPart ?_ | with_reducible refine g_part ?_
  | with_reducible refine g_partI ?_ | with_reducible refine g_sl ?_ | with_reducible refine g_m1 ?_ | with_reducible refine g_m0 ?_ | with_reducible refine g_isS ?_ | with_reducible refine g_gsub ?_
  | with_reducible refine g_gcons ?_ | with_reducible refine g_gnil ?_ | with_reducible refine g_bm ?_ | with_reducible refine g_bm0 ?_ | with_reducible refine g_mk ?_ | with_reducible refine g_lc ?_ | with_reducible refine g_fld ?_ | with_reducible refine g_yes ?_)
local macro_rules | `(tactic| walk_at "go_") => `(tactic| first
  | with_reducible refine g_addI ?_ | with_reducible refine g_subI ?_ | with_reducible refine g_ltI ?_ | with_reducible refine g_leI ?_ | with_reducible refine g_gtI ?_ | with_reducible refine g_geI ?_
  | with_reducible refine g_eqI ?_ | with_reducible refine g_eqS ?_ | with_reducible refine g_neI ?_ | with_reducible refine g_neS ?_
  | with_reducible refine g_isNn ?_ | with_reducible refine g_isNi ?_ | with_reducible refine g_isNs ?_ | with_reducible refine g_isNr ?_
  | with_reducible refine g_notNn ?_ | with_reducible refine g_notNi ?_ | with_reducible refine g_notNs ?_ | with_reducible refine g_notNr ?_ | with_reducible refine g_neg ?_
  | with_reducible refine g_inS ?_ | with_reducible refine g_niS ?_ | with_reducible refine g_iteT ?_ | with_reducible refine g_iteF ?_ | with_reducible refine g_iteNT ?_ | with_reducible refine g_iteNF ?_
  | with_reducible refine g_intI ?_ | with_reducible refine g_intB ?_ | with_reducible refine g_gcd ?_ | with_reducible refine g_max2 ?_ | with_reducible refine g_min2 ?_ | with_reducible refine g_stw ?_ | with_reducible refine g_abs ?_
  | with_reducible refine g_iStr ?_ | with_reducible refine g_exS ?_ | with_reducible refine g_iList ?_ | with_reducible refine g_iTup ?_ | with_reducible refine g_iR1 ?_ | with_reducible refine g_iR2 ?_ | with_reducible refine g_exR1 (by omega) (by omega) ?_ | with_reducible refine g_exR2 (by omega) ?_)
local macro_rules | `(tactic| walk_at "go1") => `(tactic| first | walk_at "gs" | with_reducible refine g_seq ?_ | walk_at "gv" | walk_at "ge" | walk_at "gn" | walk_at "go_")
local macro_rules | `(tactic| walk_at "go") => `(tactic| repeat walk_at "go1")
local macro_rules | `(tactic| walk_at "gl") => `(tactic| first
  | with_reducible refine g_lenS (by assumption) ?_ | with_reducible refine g_lenL (by assumption) ?_ | with_reducible refine g_lenT (by assumption) ?_ | with_reducible refine g_exL (by assumption) ?_ | with_reducible refine g_exT (by assumption) ?_)
local macro_rules | `(tactic| walk_at "gw") => `(tactic| repeat (first | walk_at "gs" | walk_at "gv" | walk_at "ge" | walk_at "gn" | walk_at "go_" | walk_at "gl"))
local macro_rules | `(tactic| walk_at "go2") => `(tactic| first | walk_at "go1" | walk_at "gl")
local macro_rules | `(tactic| walk_at "gg") => `(tactic| repeat walk_at "go2")

section
variable {P : Program} {w : World} {K : PySem.W.Frag} {mg : Str → Option Value} {base : Heap}
theorem g_thru {t : TS} {D : Ends} {σ : L2.St} {H : Hp} (h : t D σ H) : (fun D σ H => t D σ H) D σ H := h
def spRText : Sp := fun vs H Q _ => ∃ x : Str, vs = [.str x] ∧ x.length ≤ sizeLine ∧ ∀ H', Same H H' → Q (.bl (okR (tl x))) H'
theorem ok_is_ratio_text (T : Tx fxL fnL K mg) : FnR P w K mg base (L2.CX P w) 4 (ga K "is_ratio_text") spRText := by
  refine fun_ok (F_is_ratio_text T) sc_is_ratio_text (fun _ _ _ _ _ _ us hl => match us, hl with | [_], _ => rfl) ?_ ?_
  · rintro vs H Q E ⟨x, rfl, _⟩
    rfl
  · rintro cdv A outer s H vs Q E hr ⟨x, rfl, hz, q⟩
    refine ⟨_, (pss_cons (ps_try_only rfl rfl ⟨rfl, by decide, .inl (gm_BadNumber T)⟩ (takes_of rfl rfl rfl rfl) (fun W pn xe tk po => (pss_one (ps_expr (pe_cmethF (by rfl) (gm_Ratio T) (cr_Ratio T) (cm_Ratio_read T) ((ok_Ratio_read T).mono (by decide)) hr tk (pa_cons (pv 0) pa_nil))))) (fun a oe cls d pn hz hf => (pss_one (ps_ret pe_bl))))
 (pss_one (ps_ret pe_bl))), ?_⟩
    refine g_start (σ := [some (.str x)]) rfl ?_
    walk_at "gg"
    refine ⟨x, rfl, hz, fun hk p H' sm hp _ => ?_, fun hk d H' sm hd hx => ⟨true, xm_BadNumber_BadNumber T, fun _ a ha => ?_, fun z => nomatch z⟩⟩
    · walk_at "gg"
      rw [hk] at q
      exact q H' sm
    · walk_at "gg"
      rw [hk] at q
      exact q H' sm
/-! ### the words read one by one -/
def wd (ws : List Str) (k : Nat) : Str := ws.getD k ("" : Str)
theorem wd_lt {ws : List Str} {k : Nat} (h : k < ws.length) : ws[k]? = some (wd ws k) := by
  unfold wd
  rw [List.getD_eq_getElem?_getD, List.getElem?_eq_getElem h]
  rfl
theorem wd_ge {ws : List Str} {k : Nat} (h : ¬ k < ws.length) : wd ws k = ("" : Str) := by
  unfold wd
  rw [List.getD_eq_getElem?_getD, List.getElem?_eq_none (by omega)]
  rfl
/-- the words lie in the tuple t -/
def WdAt (K : PySem.W.Frag) (H : Hp) (t : Addr) (ws : List Str) : Prop := SqT K H t (ws.map V.str) ∧ ws.length ≤ sizeLine ∧ ∀ k, (wd ws k).length ≤ sizeLine
theorem same_sqT {K : PySem.W.Frag} {H H' : Hp} {a : Addr} {xs : List V} (e : Same H H') (h : SqT K H a xs) : SqT K H' a xs := by
  rcases h with (h | ⟨o, h⟩) | h
  · exact .inl (.inl (e _ _ h))
  · exact .inl (.inr ⟨o, e _ _ h⟩)
  · exact .inr h
theorem WdAt.same {K : PySem.W.Frag} {H H' : Hp} {t : Addr} {ws : List Str} (h : WdAt K H t ws) (s : Same H H') : WdAt K H' t ws := ⟨same_sqT s h.1, h.2⟩
theorem WdAt.len {K : PySem.W.Frag} {H : Hp} {t : Addr} {ws : List Str} (h : WdAt K H t ws) : (ws.map V.str).length = ws.length := List.length_map _
theorem wd_at {ws : List Str} {k : Nat} (h : k < ws.length) : atI (ws.map V.str) ((k : Nat) : Int) = some (.str (wd ws k)) := by
  refine atI_nat ?_
  rw [List.getElem?_map, wd_lt h]
  rfl
def spWord (K : PySem.W.Frag) : Sp := fun vs H Q _ => ∃ (t : Addr) (ws : List Str) (k : Nat), vs = [.ref t, .int (k : Int)] ∧ WdAt K H t ws ∧ Q (.str (wd ws k)) H
theorem ok__word (T : Tx fxL fnL K mg) : FnR P w K mg base (L2.CX P w) 1 (ga K "_word") (spWord K) := by
  refine fun_ok (F__word T) sc__word (fun _ _ _ _ _ _ us hl => match us, hl with | [_, _], _ => rfl) ?_ ?_
  · rintro vs H Q E ⟨t, ws, k, rfl, _⟩
    rfl
  · rintro cdv A outer s H vs Q E hr ⟨t, ws, k, rfl, hw, q⟩
    refine ⟨_, (pss_cons (ps_if (pt_cmpR o_lt (pv 1) (pe_callB b_len (by rfl) (z_len T) (by decide +kernel) (pa_cons (pv 0) pa_nil)) (nomark _)) (pss_one (ps_ret (pe_ix ix_seq (pv 0) (pv 1) (fun _ _ => rfl)))) pss_nil)
 (pss_one (ps_ret pe_str))), ?_⟩
    refine g_start (σ := [some (.ref t), some (.int (k : Int))]) rfl ?_
    have hT : SqT K H t (ws.map V.str) := hw.1
    walk_at "gg"
    refine g_lenT hT ?_
    rw [hw.len]
    walk_at "gg"
    refine g_ite (fun c => ?_) (fun c => ?_)
    · walk_at "gg"
      exact g_ixT hT (wd_at (by omega)) q
    · walk_at "gg"
      rw [wd_ge (by omega)] at q
      exact q
/-- BadQuestion(i) may be raised -/
def Bad (K : PySem.W.Frag) (E : XK) (H : Hp) (i : Nat) : Prop := ∀ d H', Same H H' → H d = none → H' d = some (.xd [("place", .int (i : Int))]) → E (.ref (ga K "BadQuestion")) (some d) H'
theorem Bad.same {K : PySem.W.Frag} {E : XK} {H H' : Hp} {i : Nat} (h : Bad K E H i) (s : Same H H') : Bad K E H' i := fun d H2 s2 hd hx => h d H2 (s.trans s2) (s.free hd) hx
theorem g_badq {K : PySem.W.Frag} {E : XK} {H : Hp} {i : Nat} (h : Bad K E H i) : ([V.int (i : Int)] : List V).length ≤ 1000 ∧ ∀ a, H a = none → spInit1 (ga K "BadQuestion") "place" [.ref a, .int (i : Int)] (upd H a (exo a (ga K "BadQuestion") none))
      (fun v H2 => v = .non ∧ ∃ (d : Addr) (fs : List (Str × V)), H2 a = some (exo a (ga K "BadQuestion") (some d)) ∧ H2 d = some (exd d fs) ∧ H d = none ∧ E (.ref (ga K "BadQuestion")) (some d) (upd (del H2 a) d (.xd fs))) (fun _ _ _ => False) :=
  g_raised fun d H2 s2 hd hx => h d H2 s2 hd hx
def spAfter (K : PySem.W.Frag) : Sp := fun vs H Q E => ∃ (t : Addr) (ws : List Str) (k : Nat) (x : Str), vs = [.ref t, .int (k : Int), .str x] ∧ WdAt K H t ws ∧ (wd ws k = x → Q (.int ((k + 1 : Nat) : Int)) H) ∧ (wd ws k ≠ x → Bad K E H k)
theorem ok__after (T : Tx fxL fnL K mg) : FnR P w K mg base (L2.CX P w) 3 (ga K "_after") (spAfter K) := by
  refine fun_ok (F__after T) sc__after (fun _ _ _ _ _ _ us hl => match us, hl with | [_, _, _], _ => rfl) ?_ ?_
  · rintro vs H Q E ⟨t, ws, k, x, rfl, _⟩
    rfl
  · rintro cdv A outer s H vs Q E hr ⟨t, ws, k, x, rfl, hw, q1, q2⟩
    refine ⟨_, (pss_cons (ps_if (pt_cmpR (o_ne hr.units) (pe_callF ((ok__word T).mono (by decide)) hr (takes_of rfl rfl rfl rfl) (by rfl) (gm__word T) (k__word T) (pa_cons (pv 0) (pa_cons (pv 1) pa_nil))) (pv 2) (nomark _)) (pss_one (ps_raise rfl (takes_of rfl rfl rfl rfl) (pmk_oexF (ex_BadQuestion T) (ii_BadQuestion T) (it_BadQuestion T) ((ok_BadQuestion___init__ T).mono (by decide)) hr (by rfl) (gm_BadQuestion T) (pa_cons (pv 1) pa_nil)))) pss_nil)
 (pss_one (ps_ret (pe_op o_add (pv 1) pe_int)))), ?_⟩
    refine g_start (σ := [some (.ref t), some (.int (k : Int)), some (.str x)]) rfl ?_
    walk_at "gg"
    refine ⟨t, ws, k, rfl, hw, ?_⟩
    walk_at "gg"
    refine g_iteN (fun c => ?_) (fun c => ?_)
    · walk_at "gg"
      exact g_badq (q2 c)
    · walk_at "gg"
      exact q1 c
def spAOpen (K : PySem.W.Frag) : Sp := fun vs H Q E => ∃ (t : Addr) (ws : List Str) (k n : Nat), vs = [.ref t, .int (k : Int), .int (n : Int)] ∧ WdAt K H t ws ∧ (n ≠ 12 → wd ws k = ("(" : Str) → Q (.int ((k + 1 : Nat) : Int)) H) ∧ ((n = 12 ∨ wd ws k ≠ ("(" : Str)) → Bad K E H k)
theorem ok__after_open (T : Tx fxL fnL K mg) : FnR P w K mg base (L2.CX P w) 4 (ga K "_after_open") (spAOpen K) := by
  refine fun_ok (F__after_open T) sc__after_open (fun _ _ _ _ _ _ us hl => match us, hl with | [_, _, _], _ => rfl) ?_ ?_
  · rintro vs H Q E ⟨t, ws, k, n, rfl, _⟩
    rfl
  · rintro cdv A outer s H vs Q E hr ⟨t, ws, k, n, rfl, hw, q1, q2⟩
    refine ⟨_, (pss_cons (ps_if (pt_cmpR (o_eq hr.units) (pv 2) (pe_globE (by rfl) (cx_MOST_DEPTH T)) (nomark _)) (pss_one (ps_raise rfl (takes_of rfl rfl rfl rfl) (pmk_oexF (ex_BadQuestion T) (ii_BadQuestion T) (it_BadQuestion T) ((ok_BadQuestion___init__ T).mono (by decide)) hr (by rfl) (gm_BadQuestion T) (pa_cons (pv 1) pa_nil)))) pss_nil)
 (pss_one (ps_ret (pe_callF ((ok__after T).mono (by decide)) hr (takes_of rfl rfl rfl rfl) (by rfl) (gm__after T) (k__after T) (pa_cons (pv 0) (pa_cons (pv 1) (pa_cons pe_str pa_nil))))))), ?_⟩
    refine g_start (σ := [some (.ref t), some (.int (k : Int)), some (.int (n : Int))]) rfl ?_
    walk_at "gg"
    refine g_ite (fun c => ?_) (fun c => ?_)
    · walk_at "gg"
      exact g_badq (q2 (.inl (by omega)))
    · walk_at "gg"
      exact ⟨t, ws, k, _, rfl, hw, q1 (by omega), fun ne => q2 (.inr ne)⟩
/-- a pair of a value and a place -/
def spRd (K : PySem.W.Frag) (ok : Str → Bool) (val : Str → V) : Sp := fun vs H Q E => ∃ (t : Addr) (ws : List Str) (k : Nat), vs = [.ref t, .int (k : Int)] ∧ WdAt K H t ws ∧
  (ok (wd ws k) = true → ∀ p, H p = none → Q (.ref p) (upd H p (.tup [val (wd ws k), .int ((k + 1 : Nat) : Int)]))) ∧ (ok (wd ws k) = false → Bad K E H k)
theorem two_le : ∀ {a b : V}, ([a, b] : List V).length ≤ sizeLine := fun {a b} => by rw [sizeLine_eq]; show 2 ≤ _; decide
theorem ok__read_label (T : Tx fxL fnL K mg) : FnR P w K mg base (L2.CX P w) 3 (ga K "_read_label") (spRd K isLab V.str) := by
  refine fun_ok (F__read_label T) sc__read_label (fun _ _ _ _ _ _ us hl => match us, hl with | [_, _], _ => rfl) ?_ ?_
  · rintro vs H Q E ⟨t, ws, k, rfl, _⟩
    rfl
  · rintro cdv A outer s H vs Q E hr ⟨t, ws, k, rfl, hw, q1, q2⟩
    refine ⟨_, (pss_cons (ps_set (i := 2) sc__read_label.nd rfl (Or.inl rfl) (pe_callF ((ok__word T).mono (by decide)) hr (takes_of rfl rfl rfl rfl) (by rfl) (gm__word T) (k__word T) (pa_cons (pv 0) (pa_cons (pv 1) pa_nil))))
 (pss_cons (ps_if (pt_not (pt_val (pe_callF ((ok_is_label T).mono (by decide)) hr (takes_of rfl rfl rfl rfl) (by rfl) (gm_is_label T) (k_is_label T) (pa_cons (pv 2) pa_nil)))) (pss_one (ps_raise rfl (takes_of rfl rfl rfl rfl) (pmk_oexF (ex_BadQuestion T) (ii_BadQuestion T) (it_BadQuestion T) ((ok_BadQuestion___init__ T).mono (by decide)) hr (by rfl) (gm_BadQuestion T) (pa_cons (pv 1) pa_nil)))) pss_nil)
 (pss_one (ps_ret (pe_tup (pa_cons (pv 2) (pa_cons (pe_op o_add (pv 1) pe_int) pa_nil))))))), ?_⟩
    refine g_start (σ := [some (.ref t), some (.int (k : Int)), none]) rfl ?_
    walk_at "gg"
    refine ⟨t, ws, k, rfl, hw, ?_⟩
    walk_at "gg"
    refine ⟨_, rfl, hw.2.2 k, ?_⟩
    walk_at "gg"
    refine g_iteNB (fun c => ?_) (fun c => ?_)
    · walk_at "gg"
      exact ⟨two_le, q1 c⟩
    · walk_at "gg"
      exact g_badq (q2 c)
theorem ok__read_node (T : Tx fxL fnL K mg) : FnR P w K mg base (L2.CX P w) 3 (ga K "_read_node") (spRd K isLab V.str) := by
  refine fun_ok (F__read_node T) sc__read_node (fun _ _ _ _ _ _ us hl => match us, hl with | [_, _], _ => rfl) ?_ ?_
  · rintro vs H Q E ⟨t, ws, k, rfl, _⟩
    rfl
  · rintro cdv A outer s H vs Q E hr ⟨t, ws, k, rfl, hw, q1, q2⟩
    refine ⟨_, (pss_cons (ps_set (i := 2) sc__read_node.nd rfl (Or.inl rfl) (pe_callF ((ok__word T).mono (by decide)) hr (takes_of rfl rfl rfl rfl) (by rfl) (gm__word T) (k__word T) (pa_cons (pv 0) (pa_cons (pv 1) pa_nil))))
 (pss_cons (ps_if (pt_not (pt_val (pe_callF ((ok_is_node T).mono (by decide)) hr (takes_of rfl rfl rfl rfl) (by rfl) (gm_is_node T) (k_is_node T) (pa_cons (pv 2) pa_nil)))) (pss_one (ps_raise rfl (takes_of rfl rfl rfl rfl) (pmk_oexF (ex_BadQuestion T) (ii_BadQuestion T) (it_BadQuestion T) ((ok_BadQuestion___init__ T).mono (by decide)) hr (by rfl) (gm_BadQuestion T) (pa_cons (pv 1) pa_nil)))) pss_nil)
 (pss_one (ps_ret (pe_tup (pa_cons (pv 2) (pa_cons (pe_op o_add (pv 1) pe_int) pa_nil))))))), ?_⟩
    refine g_start (σ := [some (.ref t), some (.int (k : Int)), none]) rfl ?_
    walk_at "gg"
    refine ⟨t, ws, k, rfl, hw, ?_⟩
    walk_at "gg"
    refine ⟨_, rfl, hw.2.2 k, ?_⟩
    walk_at "gg"
    refine g_iteNB (fun c => ?_) (fun c => ?_)
    · walk_at "gg"
      exact ⟨two_le, q1 c⟩
    · walk_at "gg"
      exact g_badq (q2 c)
def okN (x : Str) : Bool := okW true (tl x)
def valN (x : Str) : V := .int (wval (tl x))
theorem ok__read_number (T : Tx fxL fnL K mg) : FnR P w K mg base (L2.CX P w) 3 (ga K "_read_number") (spRd K okN valN) := by
  refine fun_ok (F__read_number T) sc__read_number (fun _ _ _ _ _ _ us hl => match us, hl with | [_, _], _ => rfl) ?_ ?_
  · rintro vs H Q E ⟨t, ws, k, rfl, _⟩
    rfl
  · rintro cdv A outer s H vs Q E hr ⟨t, ws, k, rfl, hw, q1, q2⟩
    refine ⟨_, (pss_cons (ps_set (i := 2) sc__read_number.nd rfl (Or.inl rfl) (pe_callF ((ok_whole_of T).mono (by decide)) hr (takes_of rfl rfl rfl rfl) (by rfl) (gm_whole_of T) (k_whole_of T) (pa_cons (pe_callF ((ok__word T).mono (by decide)) hr (takes_of rfl rfl rfl rfl) (by rfl) (gm__word T) (k__word T) (pa_cons (pv 0) (pa_cons (pv 1) pa_nil))) (pa_cons pe_bl pa_nil))))
 (pss_cons (ps_if (pt_cmpR o_isN (pv 2) pe_non (nomark _)) (pss_one (ps_raise rfl (takes_of rfl rfl rfl rfl) (pmk_oexF (ex_BadQuestion T) (ii_BadQuestion T) (it_BadQuestion T) ((ok_BadQuestion___init__ T).mono (by decide)) hr (by rfl) (gm_BadQuestion T) (pa_cons (pv 1) pa_nil)))) pss_nil)
 (pss_one (ps_ret (pe_tup (pa_cons (pv 2) (pa_cons (pe_op o_add (pv 1) pe_int) pa_nil))))))), ?_⟩
    refine g_start (σ := [some (.ref t), some (.int (k : Int)), none]) rfl ?_
    walk_at "gg"
    refine ⟨t, ws, k, rfl, hw, ?_⟩
    walk_at "gg"
    refine ⟨_, true, rfl, hw.2.2 k, fun c => ?_, fun c => ?_⟩
    · walk_at "gg"
      exact ⟨two_le, q1 c⟩
    · walk_at "gg"
      exact g_badq (q2 c)
end
end My
namespace My
open PySem PySem.Spec PyProof.Rows L2 He He5 Go NumT RatA TL TxtA
/-! ### the law's automaton -/
structure StA where
  stack : List Int
  due : List Str
  sides : Int
def behind (x : Str) : List Str :=
  if x = ("least" : Str) ∨ x = ("greatest" : Str) then ["open"]
  else if x = ("energy" : Str) ∨ x = ("power" : Str) then ["label", "[", "number", "numbers"]
  else if x = ("pull" : Str) then ["label", "label"]
  else if x = ("cut" : Str) then ["label", "[", "labels"]
  else if x = ("resistance" : Str) then ["label", "[", "label", "label", "]"]
  else if x = ("forests" : Str) ∨ x = ("determinant" : Str) ∨ x = ("cost" : Str) then ["label"]
  else []
def stands (x need : Str) : Bool :=
  if need = ("open" : Str) then decide (x = ("(" : Str))
  else if need = ("label" : Str) then isLab x
  else if need = ("number" : Str) then okW true (tl x)
  else if need = ("numbers" : Str) then decide (x = ("]" : Str)) || okW true (tl x)
  else if need = ("labels" : Str) then decide (x = ("]" : Str)) || isLab x
  else decide (x = need)
def stepA (a : StA) (x : Str) : Option StA :=
  match a.due with
  | [] => none
  | need :: rest =>
    if need = ("part" : Str) then
      if x = ("(" : Str) ∧ a.stack.length < 12 then some ⟨a.stack ++ [1], a.due, a.sides⟩
      else if okR (tl x) = true then some ⟨a.stack, ["after"], a.sides⟩
      else if behind x ≠ [] then some ⟨a.stack, behind x ++ [("after" : Str)], a.sides⟩
      else none
    else if need = ("after" : Str) then
      if x = ("+" : Str) ∨ x = ("-" : Str) ∨ x = ("*" : Str) then some ⟨a.stack, ["part"], a.sides⟩
      else if x = ("<=" : Str) ∧ a.stack = [] ∧ a.sides = 1 then some ⟨a.stack, ["part"], 2⟩
      else if x = ("," : Str) ∧ a.stack.getLast? = some 2 then some ⟨a.stack.dropLast ++ [1], ["part"], a.sides⟩
      else if x = (")" : Str) ∧ a.stack.getLast? = some 1 then some ⟨a.stack.dropLast, a.due, a.sides⟩
      else none
    else if stands x need = false ∨ (need = ("open" : Str) ∧ a.stack.length = 12) then none
    else if need = ("open" : Str) then some ⟨a.stack ++ [2], ["part"], a.sides⟩
    else if (need ≠ ("numbers" : Str) ∧ need ≠ ("labels" : Str)) ∨ x = ("]" : Str) then some ⟨a.stack, rest, a.sides⟩
    else some a
def accA (a : StA) : Prop := a.stack = [] ∧ a.due = [("after" : Str)]
/-- from the k-th word in state a to the j-th word in state b -/
inductive RunA (ws : List Str) : Nat → StA → Nat → StA → Prop
  | refl (k : Nat) (a : StA) : RunA ws k a k a
  | step {k j : Nat} {a b c : StA} (h : RunA ws k a j b) (hj : j < ws.length) (hs : stepA b (wd ws j) = some c) : RunA ws k a (j + 1) c
theorem RunA.trans {ws : List Str} {k j i : Nat} {a b c : StA} (h1 : RunA ws k a j b) (h2 : RunA ws j b i c) : RunA ws k a i c := by
  induction h2 with
  | refl => exact h1
  | step h hj hs ih => exact (ih h1).step hj hs
theorem RunA.one {ws : List Str} {k : Nat} {a b : StA} (hk : k < ws.length) (hs : stepA a (wd ws k) = some b) : RunA ws k a (k + 1) b := .step (.refl k a) hk hs
theorem RunA.le {ws : List Str} {k j : Nat} {a b : StA} (h : RunA ws k a j b) : k ≤ j := by
  induction h with
  | refl => exact Nat.le_refl _
  | step h hj hs ih => omega
theorem RunA.top {ws : List Str} {k j : Nat} {a b : StA} (h : RunA ws k a j b) (hk : k ≤ ws.length) : j ≤ ws.length := by
  cases h with
  | refl => exact hk
  | step h hj hs => omega
/-- the i-th word is the first that fails -/
def FailA (ws : List Str) (k : Nat) (a : StA) (i : Nat) : Prop := ∃ b, RunA ws k a i b ∧ i ≤ ws.length ∧ (i < ws.length → stepA b (wd ws i) = none) ∧ (i = ws.length → ¬ accA b)
theorem FailA.after {ws : List Str} {k j i : Nat} {a b : StA} (h1 : RunA ws k a j b) (h2 : FailA ws j b i) : FailA ws k a i := by
  obtain ⟨c, r, q⟩ := h2
  exact ⟨c, h1.trans r, q⟩
theorem FailA.here {ws : List Str} {k : Nat} {a : StA} (hk : k ≤ ws.length) (h1 : k < ws.length → stepA a (wd ws k) = none) (h2 : ¬ accA a) : FailA ws k a k := ⟨a, .refl k a, hk, h1, fun _ => h2⟩
/-! ### steps -/
theorem wd_ne_lt {ws : List Str} {k : Nat} (h : wd ws k ≠ ("" : Str)) : k < ws.length := by
  by_cases c : k < ws.length
  · exact c
  · exact absurd (wd_ge c) h
theorem isLab_ne {x : Str} (h : isLab x = true) : x ≠ ("" : Str) := by
  rintro rfl
  revert h
  decide +kernel
theorem okW_ne {x : Str} (h : okW true (tl x) = true) : x ≠ ("" : Str) := by
  rintro rfl
  revert h
  decide +kernel
theorem okR_ne {x : Str} (h : okR (tl x) = true) : x ≠ ("" : Str) := by
  rintro rfl
  revert h
  decide +kernel
section
variable {S : List Int} {s : Int} {r : List Str} {x : Str}
theorem st_lab : stepA ⟨S, ("label" : Str) :: r, s⟩ x = if isLab x = true then some ⟨S, r, s⟩ else none := by
  unfold stepA
  dsimp only
  rw [if_neg (by decide +kernel), if_neg (by decide +kernel)]
  have e : stands x "label" = isLab x := by
    unfold stands
    rw [if_neg (by decide +kernel), if_pos rfl]
  rw [e]
  cases isLab x
  · rw [if_pos (.inl rfl), if_neg (by simp)]
  · rw [if_neg (by rintro (h | ⟨h, _⟩); cases h; revert h; decide +kernel), if_neg (by decide +kernel), if_pos (.inl ⟨by decide +kernel, by decide +kernel⟩), if_pos rfl]
theorem st_num : stepA ⟨S, ("number" : Str) :: r, s⟩ x = if okW true (tl x) = true then some ⟨S, r, s⟩ else none := by
  unfold stepA
  dsimp only
  rw [if_neg (by decide +kernel), if_neg (by decide +kernel)]
  have e : stands x "number" = okW true (tl x) := by
    unfold stands
    rw [if_neg (by decide +kernel), if_neg (by decide +kernel), if_pos rfl]
  rw [e]
  cases okW true (tl x)
  · rw [if_pos (.inl rfl), if_neg (by simp)]
  · rw [if_neg (by rintro (h | ⟨h, _⟩); cases h; revert h; decide +kernel), if_neg (by decide +kernel), if_pos (.inl ⟨by decide +kernel, by decide +kernel⟩), if_pos rfl]
theorem st_nums : stepA ⟨S, ("numbers" : Str) :: r, s⟩ x = if x = ("]" : Str) then some ⟨S, r, s⟩ else if okW true (tl x) = true then some ⟨S, ("numbers" : Str) :: r, s⟩ else none := by
  unfold stepA
  dsimp only
  rw [if_neg (by decide +kernel), if_neg (by decide +kernel)]
  have e : stands x "numbers" = (decide (x = ("]" : Str)) || okW true (tl x)) := by
    unfold stands
    rw [if_neg (by decide +kernel), if_neg (by decide +kernel), if_neg (by decide +kernel), if_pos rfl]
  rw [e]
  by_cases hx : x = ("]" : Str)
  · rw [decide_eq_true hx, Bool.true_or, if_neg (by rintro (h | ⟨h, _⟩); cases h; revert h; decide +kernel), if_neg (by decide +kernel), if_pos (.inr hx), if_pos hx]
  · rw [decide_eq_false hx, Bool.false_or, if_neg hx]
    cases okW true (tl x)
    · rw [if_pos (.inl rfl), if_neg (by simp)]
    · rw [if_neg (by rintro (h | ⟨h, _⟩); cases h; revert h; decide +kernel), if_neg (by decide +kernel), if_neg (by rintro (⟨h, _⟩ | h); exact h rfl; exact hx h), if_pos rfl]
theorem st_labs : stepA ⟨S, ("labels" : Str) :: r, s⟩ x = if x = ("]" : Str) then some ⟨S, r, s⟩ else if isLab x = true then some ⟨S, ("labels" : Str) :: r, s⟩ else none := by
  unfold stepA
  dsimp only
  rw [if_neg (by decide +kernel), if_neg (by decide +kernel)]
  have e : stands x "labels" = (decide (x = ("]" : Str)) || isLab x) := by
    unfold stands
    rw [if_neg (by decide +kernel), if_neg (by decide +kernel), if_neg (by decide +kernel), if_neg (by decide +kernel), if_pos rfl]
  rw [e]
  by_cases hx : x = ("]" : Str)
  · rw [decide_eq_true hx, Bool.true_or, if_neg (by rintro (h | ⟨h, _⟩); cases h; revert h; decide +kernel), if_neg (by decide +kernel), if_pos (.inr hx), if_pos hx]
  · rw [decide_eq_false hx, Bool.false_or, if_neg hx]
    cases isLab x
    · rw [if_pos (.inl rfl), if_neg (by simp)]
    · rw [if_neg (by rintro (h | ⟨h, _⟩); cases h; revert h; decide +kernel), if_neg (by decide +kernel), if_neg (by rintro (⟨_, h⟩ | h); exact h rfl; exact hx h), if_pos rfl]
theorem st_is {n : Str} (h1 : n ≠ "part") (h2 : n ≠ "after") (h3 : n ≠ "open") (h4 : n ≠ "label") (h5 : n ≠ "number") (h6 : n ≠ "numbers") (h7 : n ≠ "labels") : stepA ⟨S, n :: r, s⟩ x = if x = n then some ⟨S, r, s⟩ else none := by
  unfold stepA
  dsimp only
  rw [if_neg h1, if_neg h2]
  have e : stands x n = decide (x = n) := by
    unfold stands
    rw [if_neg h3, if_neg h4, if_neg h5, if_neg h6, if_neg h7]
  rw [e]
  by_cases hx : x = n
  · rw [decide_eq_true hx, if_neg (by rintro (h | ⟨h, _⟩); cases h; exact h3 h), if_neg h3, if_pos (.inl ⟨h6, h7⟩), if_pos hx]
  · rw [decide_eq_false hx, if_pos (.inl rfl), if_neg hx]
theorem st_lb : stepA ⟨S, ("[" : Str) :: r, s⟩ x = if x = ("[" : Str) then some ⟨S, r, s⟩ else none := st_is (by decide +kernel) (by decide +kernel) (by decide +kernel) (by decide +kernel) (by decide +kernel) (by decide +kernel) (by decide +kernel)
theorem st_rb : stepA ⟨S, ("]" : Str) :: r, s⟩ x = if x = ("]" : Str) then some ⟨S, r, s⟩ else none := st_is (by decide +kernel) (by decide +kernel) (by decide +kernel) (by decide +kernel) (by decide +kernel) (by decide +kernel) (by decide +kernel)
theorem st_open : stepA ⟨S, ("open" : Str) :: r, s⟩ x = if x = ("(" : Str) ∧ S.length ≠ 12 then some ⟨S ++ [2], ["part"], s⟩ else none := by
  unfold stepA
  dsimp only
  rw [if_neg (by decide +kernel), if_neg (by decide +kernel)]
  have e : stands x "open" = decide (x = ("(" : Str)) := by
    unfold stands
    rw [if_pos rfl]
  rw [e]
  by_cases hx : x = ("(" : Str)
  · by_cases hl : S.length = 12
    · rw [if_pos (.inr ⟨rfl, hl⟩), if_neg (fun h => h.2 hl)]
    · rw [decide_eq_true hx, if_neg (by rintro (h | ⟨_, h⟩); cases h; exact hl h), if_pos rfl, if_pos ⟨hx, hl⟩]
  · rw [decide_eq_false hx, if_pos (.inl rfl), if_neg (fun h => hx h.1)]
theorem st_part : stepA ⟨S, [("part" : Str)], s⟩ x = if x = ("(" : Str) ∧ S.length < 12 then some ⟨S ++ [1], ["part"], s⟩ else if okR (tl x) = true then some ⟨S, ["after"], s⟩ else if behind x ≠ [] then some ⟨S, behind x ++ [("after" : Str)], s⟩ else none := by
  unfold stepA
  dsimp only
  rw [if_pos rfl]
theorem st_after : stepA ⟨S, [("after" : Str)], s⟩ x = if x = ("+" : Str) ∨ x = ("-" : Str) ∨ x = ("*" : Str) then some ⟨S, ["part"], s⟩
      else if x = ("<=" : Str) ∧ S = [] ∧ s = 1 then some ⟨S, ["part"], 2⟩
      else if x = ("," : Str) ∧ S.getLast? = some 2 then some ⟨S.dropLast ++ [1], ["part"], s⟩
      else if x = (")" : Str) ∧ S.getLast? = some 1 then some ⟨S.dropLast, ["after"], s⟩
      else none := by
  unfold stepA
  dsimp only
  rw [if_neg (by decide +kernel), if_pos rfl]
end
theorem due_acc {S : List Int} {n : Str} {r : List Str} {s : Int} (h : n ≠ ("after" : Str)) : ¬ accA ⟨S, n :: r, s⟩ := fun q => h (List.cons.inj q.2).1
theorem stack_acc {S : List Int} {r : List Str} {s : Int} (h : S ≠ []) : ¬ accA ⟨S, r, s⟩ := fun q => h q.1
end My
namespace My
open PySem PySem.Spec PyProof.Rows L2 He He5 Go NumT RatA TL TxtA
local macro_rules | `(tactic| walk_at "gv") => `(tactic| first
  | with_reducible refine g_v0 ?_ | with_reducible refine g_v1 ?_ | with_reducible refine g_v2 ?_ | with_reducible refine g_v3 ?_ | with_reducible refine g_v4 ?_ | with_reducible refine g_v5 ?_
  | with_reducible refine g_v6 ?_ | with_reducible refine g_v7 ?_ | with_reducible refine g_v8 ?_ | with_reducible refine g_v9 ?_ | with_reducible refine g_v10 ?_ | with_reducible refine g_v11 ?_ | with_reducible refine g_v12 ?_)
local macro_rules | `(tactic| walk_at "gn") => `(tactic| first
  | with_reducible refine g_n0 ?_ | with_reducible refine g_n1 ?_ | with_reducible refine g_n2 ?_ | with_reducible refine g_n3 ?_ | with_reducible refine g_n4 ?_ | with_reducible refine g_n5 ?_
  | with_reducible refine g_n6 ?_ | with_reducible refine g_n7 ?_ | with_reducible refine g_n8 ?_ | with_reducible refine g_n9 ?_ | with_reducible refine g_n10 ?_ | with_reducible refine g_n11 ?_ | with_reducible refine g_n12 ?_)
local macro_rules | `(tactic| walk_at "gs") => `(tactic| first
  | with_reducible refine g_asg ?_ | with_reducible refine g_ret ?_ | with_reducible refine g_if ?_ | with_reducible refine g_drop ?_ | with_reducible refine g_next ?_
  | with_reducible refine g_retN ?_ | with_reducible refine g_brk ?_ | with_reducible refine g_cont ?_ | with_reducible refine g_forA ?_ | with_reducible refine g_sfld ?_)
local macro_rules | `(tactic| walk_at "ge") => `(tactic| first
  | with_reducible refine g_c ?_ | with_reducible refine g_op ?_ | with_reducible refine g_test ?_ | with_reducible refine g_bl ?_ | with_reducible refine g_tB ?_ | with_reducible refine g_not ?_
  | with_reducible refine g_and ?_ | with_reducible refine g_or ?_ | with_reducible refine g_notV ?_ | with_reducible refine g_andV ?_ | with_reducible refine g_orV ?_ | with_reducible refine g_ifE ?_
  | with_reducible refine g_un ?_ | with_reducible refine g_chain ?_ | with_reducible refine g_nil ?_ | with_reducible refine g_cons ?_ | with_reducible refine g_tup ?_ | with_reducible refine g_lst ?_
  | with_reducible refine g_cb ?_ | with_reducible refine g_call ?_ | with_reducible refine g_cmeth ?_ | with_reducible refine g_make ?_ | with_reducible refine g_noPart ?_ | with_reducible refine g_part ?_
  | with_reducible refine g_partI ?_ | with_reducible refine g_sl ?_ | with_reducible refine g_m1 ?_ | with_reducible refine g_m0 ?_ | with_reducible refine g_isS ?_ | with_reducible refine g_gsub ?_
  | with_reducible refine g_gcons ?_ | with_reducible refine g_gnil ?_ | with_reducible refine g_bm ?_ | with_reducible refine g_bm0 ?_ | with_reducible refine g_mk ?_ | with_reducible refine g_lc ?_ | with_reducible refine g_fld ?_ | with_reducible refine g_yes ?_)
local macro_rules | `(tactic| walk_at "go_") => `(tactic| first
  | with_reducible refine g_addI ?_ | with_reducible refine g_subI ?_ | with_reducible refine g_ltI ?_ | with_reducible refine g_leI ?_ | with_reducible refine g_gtI ?_ | with_reducible refine g_geI ?_
  | with_reducible refine g_eqI ?_ | with_reducible refine g_eqS ?_ | with_reducible refine g_neI ?_ | with_reducible refine g_neS ?_
  | with_reducible refine g_isNn ?_ | with_reducible refine g_isNi ?_ | with_reducible refine g_isNs ?_ | with_reducible refine g_isNr ?_
  | with_reducible refine g_notNn ?_ | with_reducible refine g_notNi ?_ | with_reducible refine g_notNs ?_ | with_reducible refine g_notNr ?_ | with_reducible refine g_neg ?_
  | with_reducible refine g_inS ?_ | with_reducible refine g_niS ?_ | with_reducible refine g_iteT ?_ | with_reducible refine g_iteF ?_ | with_reducible refine g_iteNT ?_ | with_reducible refine g_iteNF ?_
  | with_reducible refine g_intI ?_ | with_reducible refine g_intB ?_ | with_reducible refine g_gcd ?_ | with_reducible refine g_max2 ?_ | with_reducible refine g_min2 ?_ | with_reducible refine g_stw ?_ | with_reducible refine g_abs ?_
  | with_reducible refine g_iStr ?_ | with_reducible refine g_exS ?_ | with_reducible refine g_iList ?_ | with_reducible refine g_iTup ?_ | with_reducible refine g_iR1 ?_ | with_reducible refine g_iR2 ?_ | with_reducible refine g_exR1 (by omega) (by omega) ?_ | with_reducible refine g_exR2 (by omega) ?_)
local macro_rules | `(tactic| walk_at "go1") => `(tactic| first | walk_at "gs" | with_reducible refine g_seq ?_ | walk_at "gv" | walk_at "ge" | walk_at "gn" | walk_at "go_")
local macro_rules | `(tactic| walk_at "go") => `(tactic| repeat walk_at "go1")
local macro_rules | `(tactic| walk_at "gl") => `(tactic| first
  | with_reducible refine g_lenS (by assumption) ?_ | with_reducible refine g_lenL (by assumption) ?_ | with_reducible refine g_lenT (by assumption) ?_ | with_reducible refine g_exL (by assumption) ?_ | with_reducible refine g_exT (by assumption) ?_)
local macro_rules | `(tactic| walk_at "gw") => `(tactic| repeat (first | walk_at "gs" | walk_at "gv" | walk_at "ge" | walk_at "gn" | walk_at "go_" | walk_at "gl"))
local macro_rules | `(tactic| walk_at "go2") => `(tactic| first | walk_at "go1" | walk_at "gl")
local macro_rules | `(tactic| walk_at "gg") => `(tactic| repeat walk_at "go2")

theorem w_in {σ : L2.St} {H : Hp} {c : TT} {tb : TS} {n : L2.St → Hp → Prop} {r : V → Hp → Prop} {b ct : L2.St → Hp → Prop} (W : Nat → L2.St → Hp → Prop) (m0 : Nat) (h0 : W m0 σ H)
    (hs : ∀ m σ H, W m σ H → c σ H fun k H1 => if k = true then ∃ N : L2.St → Hp → Prop, (∀ σ' H', N σ' H' → ∃ m', m' < m ∧ W m' σ' H') ∧ tb ⟨N, r, n, N⟩ σ H1 else n σ H1) : tWhile c tb ⟨n, r, b, ct⟩ σ H := ⟨W, ⟨m0, h0⟩, hs⟩
theorem w_go {σ : L2.St} {H : Hp} {tb : TS} {n : L2.St → Hp → Prop} {r : V → Hp → Prop} {W : Nat → L2.St → Hp → Prop} {m : Nat} (h : tb ⟨fun σ' H' => ∃ m', m' < m ∧ W m' σ' H', r, n, fun σ' H' => ∃ m', m' < m ∧ W m' σ' H'⟩ σ H) :
    ∃ N : L2.St → Hp → Prop, (∀ σ' H', N σ' H' → ∃ m', m' < m ∧ W m' σ' H') ∧ tb ⟨N, r, n, N⟩ σ H := ⟨_, fun _ _ z => z, h⟩
theorem st_numN {S : List Int} {s : Int} {r : List Str} {x : Str} : stepA ⟨S, ("number" : Str) :: r, s⟩ x = if okN x = true then some ⟨S, r, s⟩ else none := st_num
theorem st_numsN {S : List Int} {s : Int} {r : List Str} {x : Str} : stepA ⟨S, ("numbers" : Str) :: r, s⟩ x = if x = ("]" : Str) then some ⟨S, r, s⟩ else if okN x = true then some ⟨S, ("numbers" : Str) :: r, s⟩ else none := st_nums
theorem one_le : ∀ {a : V}, ([a] : List V).length ≤ sizeLine := fun {a} => by rw [sizeLine_eq]; show 1 ≤ _; decide
theorem nil_le : ([] : List V).length ≤ sizeLine := Nat.zero_le _
theorem same_put {H H' : Hp} {l : Addr} {o : HO} (s : Same H H') (h : H l = none) : Same H (upd H' l o) := fun b u e => by rw [upd_ne (ne_of_none e h)]; exact s b u e
section
variable {P : Program} {w : World} {K : PySem.W.Frag} {mg : Str → Option Value} {base : Heap}
/-- reads from the due d0 up to after; a tuple of things and the place behind -/
def spSeg (K : PySem.W.Frag) (d0 : List Str) : Sp := fun vs H Q E => ∃ (t : Addr) (ws : List Str) (k : Nat) (S : List Int) (s : Int), vs = [.ref t, .int (k : Int)] ∧ WdAt K H t ws ∧ k ≤ ws.length ∧
  (∀ j p xs u H', RunA ws k ⟨S, d0, s⟩ j ⟨S, ["after"], s⟩ → Same H H' → H' p = some (.tup [.ref u, .int ((j : Nat) : Int)]) → H' u = some (.tup xs) → Q (.ref p) H') ∧
  (∀ i, FailA ws k ⟨S, d0, s⟩ i → Bad K E H i)
theorem ok__read_numbers (T : Tx fxL fnL K mg) : FnR P w K mg base (L2.CX P w) 4 (ga K "_read_numbers") (spSeg K ["[", "number", "numbers", "after"]) := by
  refine fun_ok (F__read_numbers T) sc__read_numbers (fun _ _ _ _ _ _ us hl => match us, hl with | [_, _], _ => rfl) ?_ ?_
  · rintro vs H Q E ⟨t, ws, k, S, s, rfl, _⟩
    rfl
  · rintro cdv A outer s H vs Q E hr ⟨t, ws, k, S, si, rfl, hw, hk, q1, q2⟩
    refine ⟨_, (pss_cons (ps_asg (pe_callF ((ok__read_number T).mono (by decide)) hr (takes_of rfl rfl rfl rfl) (by rfl) (gm__read_number T) (k__read_number T) (pa_cons (pv 0) (pa_cons (pe_callF ((ok__after T).mono (by decide)) hr (takes_of rfl rfl rfl rfl) (by rfl) (gm__after T) (k__after T) (pa_cons (pv 0) (pa_cons (pv 1) (pa_cons pe_str pa_nil)))) pa_nil))) (pg_tup rfl (pgs_cons (pg_name (i := 2) sc__read_numbers.nd rfl (Or.inl rfl)) (pgs_cons (pg_name (i := 1) sc__read_numbers.nd rfl (Or.inl rfl)) pgs_nil))))
 (pss_cons (ps_set (i := 3) sc__read_numbers.nd rfl (Or.inl rfl) (pe_lst (pa_cons (pv 2) pa_nil)))
 (pss_cons (ps_while (passes_of rfl) (pt_cmpR (o_ne hr.units) (pe_callF ((ok__word T).mono (by decide)) hr (takes_of rfl rfl rfl rfl) (by rfl) (gm__word T) (k__word T) (pa_cons (pv 0) (pa_cons (pv 1) pa_nil))) pe_str (nomark _)) (pss_cons (ps_asg (pe_callF ((ok__read_number T).mono (by decide)) hr (takes_of rfl rfl rfl rfl) (by rfl) (gm__read_number T) (k__read_number T) (pa_cons (pv 0) (pa_cons (pv 1) pa_nil))) (pg_tup rfl (pgs_cons (pg_name (i := 2) sc__read_numbers.nd rfl (Or.inl rfl)) (pgs_cons (pg_name (i := 1) sc__read_numbers.nd rfl (Or.inl rfl)) pgs_nil))))
 (pss_one (ps_expr (pe_bm PySem.F.plainAttrs_list PySem.F.slot_list_append PySem.F.type_list_append mt_append (pv 3) (pa_cons (pv 2) pa_nil))))))
 (pss_one (ps_ret (pe_tup (pa_cons (pe_callTy b_tuple (by rfl) (z_tuple T) (by decide +kernel) (pa_cons (pv 3) pa_nil)) (pa_cons (pe_op o_add (pv 1) pe_int) pa_nil)))))))), ?_⟩
    refine g_start (σ := [some (.ref t), some (.int (k : Int)), none, none]) rfl ?_
    walk_at "gg"
    refine ⟨t, ws, k, _, rfl, hw, fun e1 => ?_, fun e1 => q2 _ (.here hk (fun _ => by rw [st_lb, if_neg e1]) (due_acc (by decide +kernel)))⟩
    have k1 : k < ws.length := wd_ne_lt (by rw [e1]; decide +kernel)
    have r1 : RunA ws k ⟨S, ["[", "number", "numbers", "after"], si⟩ (k + 1) ⟨S, ["number", "numbers", "after"], si⟩ := .one k1 (by rw [st_lb, if_pos e1])
    walk_at "gg"
    refine ⟨t, ws, k + 1, rfl, hw, fun e2 p hp => ?_, fun e2 => q2 _ (.after r1 (.here k1 (fun _ => by rw [st_numN, if_neg (by rw [e2]; simp)]) (due_acc (by decide +kernel))))⟩
    have k2 : k + 1 < ws.length := wd_ne_lt (okW_ne (show okW true _ = true from e2))
    have r2 : RunA ws k ⟨S, ["[", "number", "numbers", "after"], si⟩ (k + 1 + 1) ⟨S, ["numbers", "after"], si⟩ := r1.trans (.one k2 (by rw [st_numN, if_pos e2]))
    walk_at "gg"
    refine g_gtup (.inl (.inl upd_same)) rfl ?_
    walk_at "gg"
    refine ⟨one_le, fun l hl => ?_⟩
    have s0 := same_new hp (.tup [valN (wd ws (k + 1)), .int ((k + 1 + 1 : Nat) : Int)])
    have hl0 : H l = none := s0.free hl
    walk_at "gg"
    refine w_in (fun m σ' H' => ∃ (j : Nat) (nv : V) (xs : List V), m = ws.length - j ∧ σ' = [some (.ref t), some (.int (j : Int)), some nv, some (.ref l)] ∧ RunA ws k ⟨S, ["[", "number", "numbers", "after"], si⟩ j ⟨S, ["numbers", "after"], si⟩ ∧ H' l = some (.lst xs) ∧ xs.length < j ∧ Same H H')
      _ ⟨k + 1 + 1, _, _, rfl, rfl, r2, upd_same, by show 1 < _; omega, same_put s0 hl0⟩ ?_
    rintro m σ' H1 ⟨j, nv, xs, rfl, rfl, rj, hx, hxl, sj⟩
    have hj := rj.top hk
    have hz := hw.2.1
    walk_at "gg"
    refine ⟨t, ws, j, rfl, hw.same sj, ?_⟩
    walk_at "gg"
    refine g_iteN (fun c => w_go ?_) (fun c => ?_)
    · walk_at "gg"
      refine ⟨t, ws, j, rfl, hw.same sj, fun e3 p1 hp1 => ?_, fun e3 => (q2 _ (.after rj (.here hj (fun _ => by rw [st_numsN, if_neg c, if_neg (by rw [e3]; simp)]) (due_acc (by decide +kernel))))).same sj⟩
      have k3 : j < ws.length := wd_ne_lt (okW_ne (show okW true _ = true from e3))
      walk_at "gg"
      refine g_gtup (.inl (.inl upd_same)) rfl ?_
      have hx2 : (upd H1 p1 (.tup [valN (wd ws j), .int ((j + 1 : Nat) : Int)])) l = some (.lst xs) := by rw [upd_ne (ne_of_none hx hp1)]; exact hx
      walk_at "gg"
      refine g_tyL (.inl (.inl hx2)) ?_
      walk_at "gg"
      refine g_append hx2 (by omega) ?_
      walk_at "gg"
      refine ⟨_, ?_, j + 1, _, _, rfl, rfl, rj.step k3 (by rw [st_numsN, if_neg c, if_pos e3]), upd_same, ?_, same_put (sj.trans (same_new hp1 _)) hl0⟩
      · omega
      · rw [List.length_append, List.length_singleton]
        omega
    · have k3 : j < ws.length := wd_ne_lt (by rw [c]; decide +kernel)
      walk_at "gg"
      refine g_tupL (.inl (.inl hx)) fun u hu => ?_
      walk_at "gg"
      exact ⟨two_le, fun p1 hp1 => q1 (j + 1) p1 xs u _ (rj.step k3 (by rw [st_numsN, if_pos c])) ((sj.trans (same_new hu _)).trans (same_new hp1 _)) upd_same (by rw [upd_ne (ne_of_none upd_same hp1)]; exact upd_same)⟩
theorem ok__read_nodes (T : Tx fxL fnL K mg) : FnR P w K mg base (L2.CX P w) 4 (ga K "_read_nodes") (spSeg K ["[", "labels", "after"]) := by
  refine fun_ok (F__read_nodes T) sc__read_nodes (fun _ _ _ _ _ _ us hl => match us, hl with | [_, _], _ => rfl) ?_ ?_
  · rintro vs H Q E ⟨t, ws, k, S, s, rfl, _⟩
    rfl
  · rintro cdv A outer s H vs Q E hr ⟨t, ws, k, S, si, rfl, hw, hk, q1, q2⟩
    refine ⟨_, (pss_cons (ps_set (i := 1) sc__read_nodes.nd rfl (Or.inl rfl) (pe_callF ((ok__after T).mono (by decide)) hr (takes_of rfl rfl rfl rfl) (by rfl) (gm__after T) (k__after T) (pa_cons (pv 0) (pa_cons (pv 1) (pa_cons pe_str pa_nil)))))
 (pss_cons (ps_set (i := 2) sc__read_nodes.nd rfl (Or.inl rfl) (pe_lst pa_nil))
 (pss_cons (ps_while (passes_of rfl) (pt_cmpR (o_ne hr.units) (pe_callF ((ok__word T).mono (by decide)) hr (takes_of rfl rfl rfl rfl) (by rfl) (gm__word T) (k__word T) (pa_cons (pv 0) (pa_cons (pv 1) pa_nil))) pe_str (nomark _)) (pss_cons (ps_asg (pe_callF ((ok__read_node T).mono (by decide)) hr (takes_of rfl rfl rfl rfl) (by rfl) (gm__read_node T) (k__read_node T) (pa_cons (pv 0) (pa_cons (pv 1) pa_nil))) (pg_tup rfl (pgs_cons (pg_name (i := 3) sc__read_nodes.nd rfl (Or.inl rfl)) (pgs_cons (pg_name (i := 1) sc__read_nodes.nd rfl (Or.inl rfl)) pgs_nil))))
 (pss_one (ps_expr (pe_bm PySem.F.plainAttrs_list PySem.F.slot_list_append PySem.F.type_list_append mt_append (pv 2) (pa_cons (pv 3) pa_nil))))))
 (pss_one (ps_ret (pe_tup (pa_cons (pe_callTy b_tuple (by rfl) (z_tuple T) (by decide +kernel) (pa_cons (pv 2) pa_nil)) (pa_cons (pe_op o_add (pv 1) pe_int) pa_nil)))))))), ?_⟩
    refine g_start (σ := [some (.ref t), some (.int (k : Int)), none, none]) rfl ?_
    walk_at "gg"
    refine ⟨t, ws, k, _, rfl, hw, fun e1 => ?_, fun e1 => q2 _ (.here hk (fun _ => by rw [st_lb, if_neg e1]) (due_acc (by decide +kernel)))⟩
    have k1 : k < ws.length := wd_ne_lt (by rw [e1]; decide +kernel)
    have r1 : RunA ws k ⟨S, ["[", "labels", "after"], si⟩ (k + 1) ⟨S, ["labels", "after"], si⟩ := .one k1 (by rw [st_lb, if_pos e1])
    walk_at "gg"
    refine ⟨nil_le, fun l hl0 => ?_⟩
    walk_at "gg"
    refine w_in (fun m σ' H' => ∃ (j : Nat) (nv : Option V) (xs : List V), m = ws.length - j ∧ σ' = [some (.ref t), some (.int (j : Int)), some (.ref l), nv] ∧ RunA ws k ⟨S, ["[", "labels", "after"], si⟩ j ⟨S, ["labels", "after"], si⟩ ∧ H' l = some (.lst xs) ∧ xs.length < j ∧ Same H H')
      _ ⟨k + 1, _, _, rfl, rfl, r1, upd_same, Nat.succ_pos _, same_put (Same.refl H) hl0⟩ ?_
    rintro m σ' H1 ⟨j, nv, xs, rfl, rfl, rj, hx, hxl, sj⟩
    have hj := rj.top hk
    have hz := hw.2.1
    walk_at "gg"
    refine ⟨t, ws, j, rfl, hw.same sj, ?_⟩
    walk_at "gg"
    refine g_iteN (fun c => w_go ?_) (fun c => ?_)
    · walk_at "gg"
      refine ⟨t, ws, j, rfl, hw.same sj, fun e3 p1 hp1 => ?_, fun e3 => (q2 _ (.after rj (.here hj (fun _ => by rw [st_labs, if_neg c, if_neg (by rw [e3]; simp)]) (due_acc (by decide +kernel))))).same sj⟩
      have k3 : j < ws.length := wd_ne_lt (isLab_ne e3)
      walk_at "gg"
      refine g_gtup (.inl (.inl upd_same)) rfl ?_
      have hx2 : (upd H1 p1 (.tup [V.str (wd ws j), .int ((j + 1 : Nat) : Int)])) l = some (.lst xs) := by rw [upd_ne (ne_of_none hx hp1)]; exact hx
      walk_at "gg"
      refine g_tyL (.inl (.inl hx2)) ?_
      walk_at "gg"
      refine g_append hx2 (by omega) ?_
      walk_at "gg"
      refine ⟨_, ?_, j + 1, _, _, rfl, rfl, rj.step k3 (by rw [st_labs, if_neg c, if_pos e3]), upd_same, ?_, same_put (sj.trans (same_new hp1 _)) hl0⟩
      · omega
      · rw [List.length_append, List.length_singleton]
        omega
    · have k3 : j < ws.length := wd_ne_lt (by rw [c]; decide +kernel)
      walk_at "gg"
      refine g_tupL (.inl (.inl hx)) fun u hu => ?_
      walk_at "gg"
      exact ⟨two_le, fun p1 hp1 => q1 (j + 1) p1 xs u _ (rj.step k3 (by rw [st_labs, if_pos c])) ((sj.trans (same_new hu _)).trans (same_new hp1 _)) upd_same (by rw [upd_ne (ne_of_none upd_same hp1)]; exact upd_same)⟩
theorem ok__read_two_nodes (T : Tx fxL fnL K mg) : FnR P w K mg base (L2.CX P w) 4 (ga K "_read_two_nodes") (spSeg K ["[", "label", "label", "]", "after"]) := by
  refine fun_ok (F__read_two_nodes T) sc__read_two_nodes (fun _ _ _ _ _ _ us hl => match us, hl with | [_, _], _ => rfl) ?_ ?_
  · rintro vs H Q E ⟨t, ws, k, S, s, rfl, _⟩
    rfl
  · rintro cdv A outer s H vs Q E hr ⟨t, ws, k, S, si, rfl, hw, hk, q1, q2⟩
    refine ⟨_, (pss_cons (ps_asg (pe_callF ((ok__read_node T).mono (by decide)) hr (takes_of rfl rfl rfl rfl) (by rfl) (gm__read_node T) (k__read_node T) (pa_cons (pv 0) (pa_cons (pe_callF ((ok__after T).mono (by decide)) hr (takes_of rfl rfl rfl rfl) (by rfl) (gm__after T) (k__after T) (pa_cons (pv 0) (pa_cons (pv 1) (pa_cons pe_str pa_nil)))) pa_nil))) (pg_tup rfl (pgs_cons (pg_name (i := 2) sc__read_two_nodes.nd rfl (Or.inl rfl)) (pgs_cons (pg_name (i := 1) sc__read_two_nodes.nd rfl (Or.inl rfl)) pgs_nil))))
 (pss_cons (ps_asg (pe_callF ((ok__read_node T).mono (by decide)) hr (takes_of rfl rfl rfl rfl) (by rfl) (gm__read_node T) (k__read_node T) (pa_cons (pv 0) (pa_cons (pv 1) pa_nil))) (pg_tup rfl (pgs_cons (pg_name (i := 3) sc__read_two_nodes.nd rfl (Or.inl rfl)) (pgs_cons (pg_name (i := 1) sc__read_two_nodes.nd rfl (Or.inl rfl)) pgs_nil))))
 (pss_one (ps_ret (pe_tup (pa_cons (pe_tup (pa_cons (pv 2) (pa_cons (pv 3) pa_nil))) (pa_cons (pe_callF ((ok__after T).mono (by decide)) hr (takes_of rfl rfl rfl rfl) (by rfl) (gm__after T) (k__after T) (pa_cons (pv 0) (pa_cons (pv 1) (pa_cons pe_str pa_nil)))) pa_nil))))))), ?_⟩
    refine g_start (σ := [some (.ref t), some (.int (k : Int)), none, none]) rfl ?_
    walk_at "gg"
    refine ⟨t, ws, k, _, rfl, hw, fun e1 => ?_, fun e1 => q2 _ (.here hk (fun _ => by rw [st_lb, if_neg e1]) (due_acc (by decide +kernel)))⟩
    have k1 : k < ws.length := wd_ne_lt (by rw [e1]; decide +kernel)
    have r1 : RunA ws k ⟨S, ["[", "label", "label", "]", "after"], si⟩ (k + 1) ⟨S, ["label", "label", "]", "after"], si⟩ := .one k1 (by rw [st_lb, if_pos e1])
    walk_at "gg"
    refine ⟨t, ws, k + 1, rfl, hw, fun e2 p hp => ?_, fun e2 => q2 _ (.after r1 (.here k1 (fun _ => by rw [st_lab, if_neg (by rw [e2]; simp)]) (due_acc (by decide +kernel))))⟩
    have k2 : k + 1 < ws.length := wd_ne_lt (isLab_ne e2)
    have r2 := r1.step k2 (by rw [st_lab, if_pos e2])
    have s2 := same_new hp (.tup [V.str (wd ws (k + 1)), .int ((k + 1 + 1 : Nat) : Int)])
    walk_at "gg"
    refine g_gtup (.inl (.inl upd_same)) rfl ?_
    walk_at "gg"
    refine ⟨t, ws, k + 1 + 1, rfl, hw.same s2, fun e3 p3 hp3 => ?_, fun e3 => (q2 _ (.after r2 (.here k2 (fun _ => by rw [st_lab, if_neg (by rw [e3]; simp)]) (due_acc (by decide +kernel))))).same s2⟩
    have k3 : k + 1 + 1 < ws.length := wd_ne_lt (isLab_ne e3)
    have r3 := r2.step k3 (by rw [st_lab, if_pos e3])
    have s3 := s2.trans (same_new hp3 (.tup [V.str (wd ws (k + 1 + 1)), .int ((k + 1 + 1 + 1 : Nat) : Int)]))
    walk_at "gg"
    refine g_gtup (.inl (.inl upd_same)) rfl ?_
    walk_at "gg"
    refine ⟨two_le, fun u hu => ?_⟩
    have s4 := s3.trans (same_new hu (.tup [V.str (wd ws (k + 1)), V.str (wd ws (k + 1 + 1))]))
    walk_at "gg"
    refine ⟨t, ws, k + 1 + 1 + 1, _, rfl, hw.same s4, fun e4 => ?_, fun e4 => (q2 _ (.after r3 (.here k3 (fun _ => by rw [st_rb, if_neg e4]) (due_acc (by decide +kernel))))).same s4⟩
    have k4 : k + 1 + 1 + 1 < ws.length := wd_ne_lt (by rw [e4]; decide +kernel)
    walk_at "gg"
    exact ⟨two_le, fun p1 hp1 => q1 _ p1 _ u _ (r3.step k4 (by rw [st_rb, if_pos e4])) (s4.trans (same_new hp1 _)) upd_same (by rw [upd_ne (ne_of_none upd_same hp1)]; exact upd_same)⟩
end
end My
namespace My
open PySem PySem.Spec PyProof.Rows L2 He He5 Go NumT RatA TL TxtA
local macro_rules | `(tactic| walk_at "gv") => `(tactic| first
  | with_reducible refine g_v0 ?_ | with_reducible refine g_v1 ?_ | with_reducible refine g_v2 ?_ | with_reducible refine g_v3 ?_ | with_reducible refine g_v4 ?_ | with_reducible refine g_v5 ?_
  | with_reducible refine g_v6 ?_ | with_reducible refine g_v7 ?_ | with_reducible refine g_v8 ?_ | with_reducible refine g_v9 ?_ | with_reducible refine g_v10 ?_ | with_reducible refine g_v11 ?_ | with_reducible refine g_v12 ?_)
local macro_rules | `(tactic| walk_at "gn") => `(tactic| first
  | with_reducible refine g_n0 ?_ | with_reducible refine g_n1 ?_ | with_reducible refine g_n2 ?_ | with_reducible refine g_n3 ?_ | with_reducible refine g_n4 ?_ | with_reducible refine g_n5 ?_
  | with_reducible refine g_n6 ?_ | with_reducible refine g_n7 ?_ | with_reducible refine g_n8 ?_ | with_reducible refine g_n9 ?_ | with_reducible refine g_n10 ?_ | with_reducible refine g_n11 ?_ | with_reducible refine g_n12 ?_)
local macro_rules | `(tactic| walk_at "gs") => `(tactic| first
  | with_reducible refine g_asg ?_ | with_reducible refine g_ret ?_ | with_reducible refine g_if ?_ | with_reducible refine g_drop ?_ | with_reducible refine g_next ?_
  | with_reducible refine g_retN ?_ | with_reducible refine g_brk ?_ | with_reducible refine g_cont ?_ | with_reducible refine g_forA ?_ | with_reducible refine g_sfld ?_)
local macro_rules | `(tactic| walk_at "ge") => `(tactic| first
  | with_reducible refine g_c ?_ | with_reducible refine g_op ?_ | with_reducible refine g_test ?_ | with_reducible refine g_bl ?_ | with_reducible refine g_tB ?_ | with_reducible refine g_not ?_
  | with_reducible refine g_and ?_ | with_reducible refine g_or ?_ | with_reducible refine g_notV ?_ | with_reducible refine g_andV ?_ | with_reducible refine g_orV ?_ | with_reducible refine g_ifE ?_
  | with_reducible refine g_un ?_ | with_reducible refine g_chain ?_ | with_reducible refine g_nil ?_ | with_reducible refine g_cons ?_ | with_reducible refine g_tup ?_ | with_reducible refine g_lst ?_
  | with_reducible refine g_cb ?_ | with_reducible refine g_call ?_ | with_reducible refine g_cmeth ?_ | with_reducible refine g_make ?_ | with_reducible refine g_noPart ?_ | with_reducible refine g_part ?_
  | with_reducible refine g_partI ?_ | with_reducible refine g_sl ?_ | with_reducible refine g_m1 ?_ | with_reducible refine g_m0 ?_ | with_reducible refine g_isS ?_ | with_reducible refine g_gsub ?_
  | with_reducible refine g_gcons ?_ | with_reducible refine g_gnil ?_ | with_reducible refine g_bm ?_ | with_reducible refine g_bm0 ?_ | with_reducible refine g_mk ?_ | with_reducible refine g_lc ?_ | with_reducible refine g_fld ?_ | with_reducible refine g_yes ?_)
local macro_rules | `(tactic| walk_at "go_") => `(tactic| first
  | with_reducible refine g_addI ?_ | with_reducible refine g_subI ?_ | with_reducible refine g_ltI ?_ | with_reducible refine g_leI ?_ | with_reducible refine g_gtI ?_ | with_reducible refine g_geI ?_
  | with_reducible refine g_eqI ?_ | with_reducible refine g_eqS ?_ | with_reducible refine g_neI ?_ | with_reducible refine g_neS ?_
  | with_reducible refine g_isNn ?_ | with_reducible refine g_isNi ?_ | with_reducible refine g_isNs ?_ | with_reducible refine g_isNr ?_
  | with_reducible refine g_notNn ?_ | with_reducible refine g_notNi ?_ | with_reducible refine g_notNs ?_ | with_reducible refine g_notNr ?_ | with_reducible refine g_neg ?_
  | with_reducible refine g_inS ?_ | with_reducible refine g_niS ?_ | with_reducible refine g_iteT ?_ | with_reducible refine g_iteF ?_ | with_reducible refine g_iteNT ?_ | with_reducible refine g_iteNF ?_
  | with_reducible refine g_intI ?_ | with_reducible refine g_intB ?_ | with_reducible refine g_gcd ?_ | with_reducible refine g_max2 ?_ | with_reducible refine g_min2 ?_ | with_reducible refine g_stw ?_ | with_reducible refine g_abs ?_
  | with_reducible refine g_iStr ?_ | with_reducible refine g_exS ?_ | with_reducible refine g_iList ?_ | with_reducible refine g_iTup ?_ | with_reducible refine g_iR1 ?_ | with_reducible refine g_iR2 ?_ | with_reducible refine g_exR1 (by omega) (by omega) ?_ | with_reducible refine g_exR2 (by omega) ?_)
local macro_rules | `(tactic| walk_at "go1") => `(tactic| first | walk_at "gs" | with_reducible refine g_seq ?_ | walk_at "gv" | walk_at "ge" | walk_at "gn" | walk_at "go_")
local macro_rules | `(tactic| walk_at "go") => `(tactic| repeat walk_at "go1")
local macro_rules | `(tactic| walk_at "gl") => `(tactic| first
  | with_reducible refine g_lenS (by assumption) ?_ | with_reducible refine g_lenL (by assumption) ?_ | with_reducible refine g_lenT (by assumption) ?_ | with_reducible refine g_exL (by assumption) ?_ | with_reducible refine g_exT (by assumption) ?_)
local macro_rules | `(tactic| walk_at "gw") => `(tactic| repeat (first | walk_at "gs" | walk_at "gv" | walk_at "ge" | walk_at "gn" | walk_at "go_" | walk_at "gl"))
local macro_rules | `(tactic| walk_at "go2") => `(tactic| first | walk_at "go1" | walk_at "gl")
local macro_rules | `(tactic| walk_at "gg") => `(tactic| repeat walk_at "go2")

section
variable {P : Program} {w : World} {K : PySem.W.Frag} {mg : Str → Option Value} {base : Heap}
/-- what stands behind the label of a measure -/
def rest (x : Str) : List Str :=
  if x = ("energy" : Str) ∨ x = ("power" : Str) then ["[", "number", "numbers"]
  else if x = ("cut" : Str) then ["[", "labels"]
  else if x = ("resistance" : Str) then ["[", "label", "label", "]"]
  else if x = ("pull" : Str) then ["label"]
  else []
theorem behind_mea {x : Str} (h : isMea x = true) : behind x = ("label" : Str) :: rest x := by
  unfold isMea meaB meaN meaK at h
  rw [Bool.or_eq_true, Bool.or_eq_true, decide_eq_true_eq, decide_eq_true_eq, decide_eq_true_eq] at h
  simp only [List.mem_cons, List.not_mem_nil, or_false] at h
  rcases h with (rfl | rfl | rfl) | (rfl | rfl | rfl) | (rfl | rfl) <;> decide +kernel
def spThings (K : PySem.W.Frag) : Sp := fun vs H Q E => ∃ (x : Str) (t : Addr) (ws : List Str) (k : Nat) (S : List Int) (s : Int), vs = [.str x, .ref t, .int (k : Int)] ∧ WdAt K H t ws ∧ k ≤ ws.length ∧
  (∀ j p xs u H', RunA ws k ⟨S, rest x ++ [("after" : Str)], s⟩ j ⟨S, ["after"], s⟩ → Same H H' → H' p = some (.tup [.ref u, .int ((j : Nat) : Int)]) → H' u = some (.tup xs) → Q (.ref p) H') ∧
  (∀ i, FailA ws k ⟨S, rest x ++ [("after" : Str)], s⟩ i → Bad K E H i)
theorem mem2 {x a b : Str} : x ∈ [a, b] ↔ x = a ∨ x = b := by simp
theorem strs2 {a b : Str} : ([V.str a, V.str b] : List V) = [a, b].map V.str := rfl
theorem strs3 {a b c : Str} : ([V.str a, V.str b, V.str c] : List V) = [a, b, c].map V.str := rfl
theorem ok__read_things (T : Tx fxL fnL K mg) : FnR P w K mg base (L2.CX P w) 5 (ga K "_read_things") (spThings K) := by
  refine fun_ok (F__read_things T) sc__read_things (fun _ _ _ _ _ _ us hl => match us, hl with | [_, _, _], _ => rfl) ?_ ?_
  · rintro vs H Q E ⟨x, t, ws, k, S, s, rfl, _⟩
    rfl
  · rintro cdv A outer s H vs Q E hr ⟨x, t, ws, k, S, si, rfl, hw, hk, q1, q2⟩
    refine ⟨_, (pss_cons (ps_if (pt_cmpR o_in (pv 0) (pe_tup (pa_cons pe_str (pa_cons pe_str pa_nil))) (by rfl)) (pss_one (ps_ret (pe_callF ((ok__read_numbers T).mono (by decide)) hr (takes_of rfl rfl rfl rfl) (by rfl) (gm__read_numbers T) (k__read_numbers T) (pa_cons (pv 1) (pa_cons (pv 2) pa_nil))))) pss_nil)
 (pss_cons (ps_if (pt_cmpR (o_eq hr.units) (pv 0) pe_str (nomark _)) (pss_one (ps_ret (pe_callF ((ok__read_nodes T).mono (by decide)) hr (takes_of rfl rfl rfl rfl) (by rfl) (gm__read_nodes T) (k__read_nodes T) (pa_cons (pv 1) (pa_cons (pv 2) pa_nil))))) pss_nil)
 (pss_cons (ps_if (pt_cmpR (o_eq hr.units) (pv 0) pe_str (nomark _)) (pss_one (ps_ret (pe_callF ((ok__read_two_nodes T).mono (by decide)) hr (takes_of rfl rfl rfl rfl) (by rfl) (gm__read_two_nodes T) (k__read_two_nodes T) (pa_cons (pv 1) (pa_cons (pv 2) pa_nil))))) pss_nil)
 (pss_cons (ps_if (pt_cmpR (o_eq hr.units) (pv 0) pe_str (nomark _)) (pss_cons (ps_asg (pe_callF ((ok__read_label T).mono (by decide)) hr (takes_of rfl rfl rfl rfl) (by rfl) (gm__read_label T) (k__read_label T) (pa_cons (pv 1) (pa_cons (pv 2) pa_nil))) (pg_tup rfl (pgs_cons (pg_name (i := 3) sc__read_things.nd rfl (Or.inl rfl)) (pgs_cons (pg_name (i := 2) sc__read_things.nd rfl (Or.inl rfl)) pgs_nil))))
 (pss_one (ps_ret (pe_tup (pa_cons (pe_tup (pa_cons (pv 3) pa_nil)) (pa_cons (pv 2) pa_nil)))))) pss_nil)
 (pss_one (ps_ret (pe_tup (pa_cons (pe_tup pa_nil) (pa_cons (pv 2) pa_nil))))))))), ?_⟩
    refine g_start (σ := [some (.str x), some (.ref t), some (.int (k : Int)), none]) rfl ?_
    walk_at "gg"
    refine ⟨two_le, fun m hm => ?_⟩
    have s1 := same_new hm (.tup [V.str "energy", V.str "power"])
    walk_at "gg"
    refine g_inT (.inl (.inl upd_same)) rfl rfl ?_
    rw [strs2, inV_strs]
    walk_at "gg"
    refine g_ite (fun c => ?_) (fun c => ?_)
    · have e : rest x = (["[", "number", "numbers"] : List Str) := if_pos (mem2.mp c)
      rw [e] at q1 q2
      walk_at "gg"
      exact ⟨t, ws, k, S, si, rfl, hw.same s1, hk, fun j p xs u H' r sm hp hu => q1 j p xs u H' r (s1.trans sm) hp hu, fun i f => (q2 i f).same s1⟩
    · have c' : ¬ (x = ("energy" : Str) ∨ x = ("power" : Str)) := fun h => c (mem2.mpr h)
      walk_at "gg"
      refine g_ite (fun c2 => ?_) (fun c2 => ?_)
      · have e : rest x = (["[", "labels"] : List Str) := by unfold rest; rw [if_neg c', if_pos c2]
        rw [e] at q1 q2
        walk_at "gg"
        exact ⟨t, ws, k, S, si, rfl, hw.same s1, hk, fun j p xs u H' r sm hp hu => q1 j p xs u H' r (s1.trans sm) hp hu, fun i f => (q2 i f).same s1⟩
      · walk_at "gg"
        refine g_ite (fun c3 => ?_) (fun c3 => ?_)
        · have e : rest x = (["[", "label", "label", "]"] : List Str) := by unfold rest; rw [if_neg c', if_neg c2, if_pos c3]
          rw [e] at q1 q2
          walk_at "gg"
          exact ⟨t, ws, k, S, si, rfl, hw.same s1, hk, fun j p xs u H' r sm hp hu => q1 j p xs u H' r (s1.trans sm) hp hu, fun i f => (q2 i f).same s1⟩
        · walk_at "gg"
          refine g_ite (fun c4 => ?_) (fun c4 => ?_)
          · have e : rest x = (["label"] : List Str) := by unfold rest; rw [if_neg c', if_neg c2, if_neg c3, if_pos c4]
            rw [e] at q1 q2
            walk_at "gg"
            refine ⟨t, ws, k, rfl, hw.same s1, fun e1 p hp => ?_, fun e1 => (q2 _ (.here hk (fun _ => by rw [List.cons_append, st_lab, if_neg (by rw [e1]; simp)]) (due_acc (by decide +kernel)))).same s1⟩
            have k1 : k < ws.length := wd_ne_lt (isLab_ne e1)
            have s2 := s1.trans (same_new hp (.tup [V.str (wd ws k), .int ((k + 1 : Nat) : Int)]))
            walk_at "gg"
            refine g_gtup (.inl (.inl upd_same)) rfl ?_
            walk_at "gg"
            refine ⟨one_le, fun u hu => ?_⟩
            have s3 := s2.trans (same_new hu (.tup [V.str (wd ws k)]))
            walk_at "gg"
            exact ⟨two_le, fun p1 hp1 => q1 _ p1 _ u _ (.one k1 (by rw [List.cons_append, st_lab, if_pos e1]; rfl)) (s3.trans (same_new hp1 _)) upd_same (by rw [upd_ne (ne_of_none upd_same hp1)]; exact upd_same)⟩
          · have e : rest x = [] := by unfold rest; rw [if_neg c', if_neg c2, if_neg c3, if_neg c4]
            rw [e] at q1 q2
            walk_at "gg"
            refine ⟨nil_le, fun u hu => ?_⟩
            walk_at "gg"
            exact ⟨two_le, fun p1 hp1 => q1 _ p1 _ u _ (.refl _ _) ((s1.trans (same_new hu _)).trans (same_new hp1 _)) upd_same (by rw [upd_ne (ne_of_none upd_same hp1)]; exact upd_same)⟩
/-- reads a tree from the state a at the place k0 on -/
def Ok2 (H : Hp) (Q : VK) (ws : List Str) (k0 : Nat) (a : StA) (S : List Int) (s : Int) (fin : Str → Prop) : Prop := ∀ j p v H', RunA ws k0 a j ⟨S, ["after"], s⟩ → fin (wd ws j) → Same H H' → H' p = some (.tup [v, .int ((j : Nat) : Int)]) → Q (.ref p) H'
def spMeas (K : PySem.W.Frag) : Sp := fun vs H Q E => ∃ (t : Addr) (ws : List Str) (k : Nat) (S : List Int) (s : Int), vs = [.ref t, .int (k : Int)] ∧ WdAt K H t ws ∧ k < ws.length ∧ isMea (wd ws k) = true ∧
  Ok2 H Q ws (k + 1) ⟨S, behind (wd ws k) ++ [("after" : Str)], s⟩ S s (fun _ => True) ∧ (∀ i, FailA ws (k + 1) ⟨S, behind (wd ws k) ++ [("after" : Str)], s⟩ i → Bad K E H i)
theorem ok__read_measure (T : Tx fxL fnL K mg) : FnR P w K mg base (L2.CX P w) 6 (ga K "_read_measure") (spMeas K) := by
  refine fun_ok (F__read_measure T) sc__read_measure (fun _ _ _ _ _ _ us hl => match us, hl with | [_, _], _ => rfl) ?_ ?_
  · rintro vs H Q E ⟨t, ws, k, S, s, rfl, _⟩
    rfl
  · rintro cdv A outer s H vs Q E hr ⟨t, ws, k, S, si, rfl, hw, hk, hm, q1, q2⟩
    refine ⟨_, (pss_cons (ps_set (i := 2) sc__read_measure.nd rfl (Or.inl rfl) (pe_ix ix_seq (pv 0) (pv 1) (fun _ _ => rfl)))
 (pss_cons (ps_asg (pe_callF ((ok__read_label T).mono (by decide)) hr (takes_of rfl rfl rfl rfl) (by rfl) (gm__read_label T) (k__read_label T) (pa_cons (pv 0) (pa_cons (pe_op o_add (pv 1) pe_int) pa_nil))) (pg_tup rfl (pgs_cons (pg_name (i := 3) sc__read_measure.nd rfl (Or.inl rfl)) (pgs_cons (pg_name (i := 1) sc__read_measure.nd rfl (Or.inl rfl)) pgs_nil))))
 (pss_cons (ps_asg (pe_callF ((ok__read_things T).mono (by decide)) hr (takes_of rfl rfl rfl rfl) (by rfl) (gm__read_things T) (k__read_things T) (pa_cons (pv 2) (pa_cons (pv 0) (pa_cons (pv 1) pa_nil)))) (pg_tup rfl (pgs_cons (pg_name (i := 4) sc__read_measure.nd rfl (Or.inl rfl)) (pgs_cons (pg_name (i := 1) sc__read_measure.nd rfl (Or.inl rfl)) pgs_nil))))
 (pss_one (ps_ret (pe_tup (pa_cons (pe_makeF (mk_Measure T) ((ok_Measure___init__ T).mono (by decide)) hr (takes_of rfl rfl rfl rfl) (by rfl) (gm_Measure T) (pa_cons (pv 2) (pa_cons (pv 3) (pa_cons (pv 4) pa_nil)))) (pa_cons (pv 1) pa_nil)))))))), ?_⟩
    refine g_start (σ := [some (.ref t), some (.int (k : Int)), none, none, none]) rfl ?_
    rw [behind_mea hm] at q1 q2
    walk_at "gg"
    refine g_ixT hw.1 (wd_at hk) ?_
    walk_at "gg"
    refine ⟨t, ws, k + 1, rfl, hw, fun e2 p hp => ?_, fun e2 => q2 _ (.here hk (fun _ => by rw [List.cons_append, st_lab, if_neg (by rw [e2]; simp)]) (due_acc (by decide +kernel)))⟩
    have k2 : k + 1 < ws.length := wd_ne_lt (isLab_ne e2)
    have r2 : RunA ws (k + 1) ⟨S, ("label" : Str) :: rest (wd ws k) ++ [("after" : Str)], si⟩ (k + 1 + 1) ⟨S, rest (wd ws k) ++ [("after" : Str)], si⟩ := .one k2 (by rw [List.cons_append, st_lab, if_pos e2])
    have s2 := same_new hp (.tup [V.str (wd ws (k + 1)), .int ((k + 1 + 1 : Nat) : Int)])
    walk_at "gg"
    refine g_gtup (.inl (.inl upd_same)) rfl ?_
    walk_at "gg"
    refine ⟨wd ws k, t, ws, k + 1 + 1, S, si, rfl, hw.same s2, k2, fun j p3 xs u H3 r3 s3 hp3 hu3 => ?_, fun i f => (q2 i (.after r2 f)).same s2⟩
    walk_at "gg"
    refine g_gtup (.inl (.inl hp3)) rfl ?_
    walk_at "gg"
    intro x dx hx hdx ne
    have ux : u ≠ x := ne_of_none hu3 hx
    have udx : u ≠ dx := ne_of_none hu3 hdx
    refine ⟨x, dx, x, x, u, _, _, xs, rfl, .inl (.inl (by rw [upd_ne ux, upd_ne udx]; exact hu3)), upd_same, ux, fun H4 b => ⟨rfl, ?_⟩⟩
    have s4 := (s2.trans s3).trans (same_made hx hdx b)
    walk_at "gg"
    exact ⟨two_le, fun p1 hp1 => q1 j p1 _ _ (r2.trans r3) trivial (s4.trans (same_new hp1 _)) upd_same⟩
end
end My
namespace My
open PySem PySem.Spec PyProof.Rows L2 He He5 Go NumT RatA TL TxtA
local macro_rules | `(tactic| walk_at "gv") => `(tactic| first
  | with_reducible refine g_v0 ?_ | with_reducible refine g_v1 ?_ | with_reducible refine g_v2 ?_ | with_reducible refine g_v3 ?_ | with_reducible refine g_v4 ?_ | with_reducible refine g_v5 ?_
  | with_reducible refine g_v6 ?_ | with_reducible refine g_v7 ?_ | with_reducible refine g_v8 ?_ | with_reducible refine g_v9 ?_ | with_reducible refine g_v10 ?_ | with_reducible refine g_v11 ?_ | with_reducible refine g_v12 ?_)
local macro_rules | `(tactic| walk_at "gn") => `(tactic| first
  | with_reducible refine g_n0 ?_ | with_reducible refine g_n1 ?_ | with_reducible refine g_n2 ?_ | with_reducible refine g_n3 ?_ | with_reducible refine g_n4 ?_ | with_reducible refine g_n5 ?_
  | with_reducible refine g_n6 ?_ | with_reducible refine g_n7 ?_ | with_reducible refine g_n8 ?_ | with_reducible refine g_n9 ?_ | with_reducible refine g_n10 ?_ | with_reducible refine g_n11 ?_ | with_reducible refine g_n12 ?_)
local macro_rules | `(tactic| walk_at "gs") => `(tactic| first
  | with_reducible refine g_asg ?_ | with_reducible refine g_ret ?_ | with_reducible refine g_if ?_ | with_reducible refine g_drop ?_ | with_reducible refine g_next ?_
  | with_reducible refine g_retN ?_ | with_reducible refine g_brk ?_ | with_reducible refine g_cont ?_ | with_reducible refine g_forA ?_ | with_reducible refine g_sfld ?_)
local macro_rules | `(tactic| walk_at "ge") => `(tactic| first
  | with_reducible refine g_c ?_ | with_reducible refine g_op ?_ | with_reducible refine g_test ?_ | with_reducible refine g_bl ?_ | with_reducible refine g_tB ?_ | with_reducible refine g_not ?_
  | with_reducible refine g_and ?_ | with_reducible refine g_or ?_ | with_reducible refine g_notV ?_ | with_reducible refine g_andV ?_ | with_reducible refine g_orV ?_ | with_reducible refine g_ifE ?_
  | with_reducible refine g_un ?_ | with_reducible refine g_chain ?_ | with_reducible refine g_nil ?_ | with_reducible refine g_cons ?_ | with_reducible refine g_tup ?_ | with_reducible refine g_lst ?_
  | with_reducible refine g_cb ?_ | with_reducible refine g_call ?_ | with_reducible refine g_cmeth ?_ | with_reducible refine g_make ?_ | with_reducible refine g_noPart ?_ | with_reducible refine g_part ?_
  | with_reducible refine g_partI ?_ | with_reducible refine g_sl ?_ | with_reducible refine g_m1 ?_ | with_reducible refine g_m0 ?_ | with_reducible refine g_isS ?_ | with_reducible refine g_gsub ?_
  | with_reducible refine g_gcons ?_ | with_reducible refine g_gnil ?_ | with_reducible refine g_bm ?_ | with_reducible refine g_bm0 ?_ | with_reducible refine g_mk ?_ | with_reducible refine g_lc ?_ | with_reducible refine g_fld ?_ | with_reducible refine g_yes ?_)
local macro_rules | `(tactic| walk_at "go_") => `(tactic| first
  | with_reducible refine g_addI ?_ | with_reducible refine g_subI ?_ | with_reducible refine g_ltI ?_ | with_reducible refine g_leI ?_ | with_reducible refine g_gtI ?_ | with_reducible refine g_geI ?_
  | with_reducible refine g_eqI ?_ | with_reducible refine g_eqS ?_ | with_reducible refine g_neI ?_ | with_reducible refine g_neS ?_
  | with_reducible refine g_isNn ?_ | with_reducible refine g_isNi ?_ | with_reducible refine g_isNs ?_ | with_reducible refine g_isNr ?_
  | with_reducible refine g_notNn ?_ | with_reducible refine g_notNi ?_ | with_reducible refine g_notNs ?_ | with_reducible refine g_notNr ?_ | with_reducible refine g_neg ?_
  | with_reducible refine g_inS ?_ | with_reducible refine g_niS ?_ | with_reducible refine g_iteT ?_ | with_reducible refine g_iteF ?_ | with_reducible refine g_iteNT ?_ | with_reducible refine g_iteNF ?_
  | with_reducible refine g_intI ?_ | with_reducible refine g_intB ?_ | with_reducible refine g_gcd ?_ | with_reducible refine g_max2 ?_ | with_reducible refine g_min2 ?_ | with_reducible refine g_stw ?_ | with_reducible refine g_abs ?_
  | with_reducible refine g_iStr ?_ | with_reducible refine g_exS ?_ | with_reducible refine g_iList ?_ | with_reducible refine g_iTup ?_ | with_reducible refine g_iR1 ?_ | with_reducible refine g_iR2 ?_ | with_reducible refine g_exR1 (by omega) (by omega) ?_ | with_reducible refine g_exR2 (by omega) ?_)
local macro_rules | `(tactic| walk_at "go1") => `(tactic| first | walk_at "gs" | with_reducible refine g_seq ?_ | walk_at "gv" | walk_at "ge" | walk_at "gn" | walk_at "go_")
local macro_rules | `(tactic| walk_at "go") => `(tactic| repeat walk_at "go1")
local macro_rules | `(tactic| walk_at "gl") => `(tactic| first
  | with_reducible refine g_lenS (by assumption) ?_ | with_reducible refine g_lenL (by assumption) ?_ | with_reducible refine g_lenT (by assumption) ?_ | with_reducible refine g_exL (by assumption) ?_ | with_reducible refine g_exT (by assumption) ?_)
local macro_rules | `(tactic| walk_at "gw") => `(tactic| repeat (first | walk_at "gs" | walk_at "gv" | walk_at "ge" | walk_at "gn" | walk_at "go_" | walk_at "gl"))
local macro_rules | `(tactic| walk_at "go2") => `(tactic| first | walk_at "go1" | walk_at "gl")
local macro_rules | `(tactic| walk_at "gg") => `(tactic| repeat walk_at "go2")

section
variable {P : Program} {w : World} {K : PySem.W.Frag} {mg : Str → Option Value} {base : Heap}
theorem g_made1 {C : Addr} {u : V} {H : Hp} {Q : Addr → Hp → Prop} {E : XK} (h : ∀ x H', Same H H' → H x = none → Q x H') : ∀ x dx, H x = none → H dx = none → dx ≠ x →
    spMk C 1 [.ref x, u] (upd (upd H dx (.own x)) x (.ins C dx [])) (fun v H2 => v = .non ∧ Q x H2) E :=
  fun x dx hx hd ne => ⟨x, dx, [u], rfl, rfl, upd_same, fun H' b => ⟨rfl, h x H' (same_made hx hd b) hx⟩⟩
theorem g_made2 {C : Addr} {u v : V} {H : Hp} {Q : Addr → Hp → Prop} {E : XK} (h : ∀ x H', Same H H' → H x = none → Q x H') : ∀ x dx, H x = none → H dx = none → dx ≠ x →
    spMk C 2 [.ref x, u, v] (upd (upd H dx (.own x)) x (.ins C dx [])) (fun v H2 => v = .non ∧ Q x H2) E :=
  fun x dx hx hd ne => ⟨x, dx, [u, v], rfl, rfl, upd_same, fun H' b => ⟨rfl, h x H' (same_made hx hd b) hx⟩⟩
def notop (x : Str) : Prop := x ≠ ("*" : Str) ∧ x ≠ ("+" : Str) ∧ x ≠ ("-" : Str)
theorem not_op {x : Str} (h : notop x) : ¬ (x = ("+" : Str) ∨ x = ("-" : Str) ∨ x = ("*" : Str)) := by
  obtain ⟨a, b, c⟩ := h
  rintro (h | h | h)
  · exact b h
  · exact c h
  · exact a h
theorem st_comma {S : List Int} {s : Int} : stepA ⟨S ++ [2], [("after" : Str)], s⟩ ("," : Str) = some ⟨S ++ [1], ["part"], s⟩ := by
  rw [st_after, if_neg (by decide +kernel), if_neg (by rintro ⟨h, _⟩; revert h; decide +kernel), if_pos ⟨rfl, by simp⟩]
  simp
theorem st_close {S : List Int} {s : Int} : stepA ⟨S ++ [1], [("after" : Str)], s⟩ (")" : Str) = some ⟨S, ["after"], s⟩ := by
  rw [st_after, if_neg (by decide +kernel), if_neg (by rintro ⟨h, _⟩; revert h; decide +kernel), if_neg (by rintro ⟨h, _⟩; revert h; decide +kernel), if_pos ⟨rfl, by simp⟩]
  simp
theorem st_bad2 {S : List Int} {s : Int} {x : Str} (h : notop x) (h2 : x ≠ ("," : Str)) : stepA ⟨S ++ [2], [("after" : Str)], s⟩ x = none := by
  rw [st_after, if_neg (not_op h), if_neg (by rintro ⟨_, q, _⟩; simp at q), if_neg (fun q => h2 q.1), if_neg (by rintro ⟨_, q⟩; simp at q)]
theorem st_bad1 {S : List Int} {s : Int} {x : Str} (h : notop x) (h2 : x ≠ (")" : Str)) : stepA ⟨S ++ [1], [("after" : Str)], s⟩ x = none := by
  rw [st_after, if_neg (not_op h), if_neg (by rintro ⟨_, q, _⟩; simp at q), if_neg (by rintro ⟨_, q⟩; simp at q), if_neg (fun q => h2 q.1)]
theorem st_op {S : List Int} {s : Int} {x : Str} (h : x = ("+" : Str) ∨ x = ("-" : Str) ∨ x = ("*" : Str)) : stepA ⟨S, [("after" : Str)], s⟩ x = some ⟨S, ["part"], s⟩ := by
  rw [st_after, if_pos h]
/-- reads a value; n counts the depths that are left -/
def spV (K : PySem.W.Frag) (n : Nat) (fin : Str → Prop) : Sp := fun vs H Q E => ∃ (t : Addr) (ws : List Str) (k : Nat) (S : List Int) (s : Int), vs = [.ref t, .int (k : Int), .int (S.length : Int)] ∧ WdAt K H t ws ∧ k ≤ ws.length ∧ S.length ≤ 12 ∧ S.length + n = 13 ∧
  Ok2 H Q ws k ⟨S, ["part"], s⟩ S s fin ∧ (∀ i, FailA ws k ⟨S, ["part"], s⟩ i → Bad K E H i)
def spChoice (K : PySem.W.Frag) (n : Nat) : Sp := fun vs H Q E => ∃ (t : Addr) (ws : List Str) (k : Nat) (S : List Int) (s : Int), vs = [.ref t, .int (k : Int), .int (S.length : Int)] ∧ WdAt K H t ws ∧ k < ws.length ∧ (wd ws k = ("least" : Str) ∨ wd ws k = ("greatest" : Str)) ∧ S.length ≤ 12 ∧ S.length + n = 13 ∧
  Ok2 H Q ws (k + 1) ⟨S, ["open", "after"], s⟩ S s (fun _ => True) ∧ (∀ i, FailA ws (k + 1) ⟨S, ["open", "after"], s⟩ i → Bad K E H i)
theorem ok__read_choice {n L : Nat} (hv : FnR P w K mg base (L2.CX P w) (L + 8) (ga K "_read_value") (spV K n notop)) (T : Tx fxL fnL K mg) : FnR P w K mg base (L2.CX P w) (L + 9) (ga K "_read_choice") (spChoice K (n + 1)) := by
  refine fun_ok (F__read_choice T) sc__read_choice (fun _ _ _ _ _ _ us hl => match us, hl with | [_, _, _], _ => rfl) ?_ ?_
  · rintro vs H Q E ⟨t, ws, k, S, s, rfl, _⟩
    rfl
  · rintro cdv A outer s H vs Q E hr ⟨t, ws, k, S, si, rfl, hw, hk, hx, hS, hn, q1, q2⟩
    refine ⟨_, (pss_cons (ps_set (i := 3) sc__read_choice.nd rfl (Or.inl rfl) (pe_ix ix_seq (pv 0) (pv 1) (fun _ _ => rfl)))
 (pss_cons (ps_asg (pe_callF hv hr (takes_of rfl rfl rfl rfl) (by rfl) (gm__read_value T) (k__read_value T) (pa_cons (pv 0) (pa_cons (pe_callF ((ok__after_open T).mono (by omega)) hr (takes_of rfl rfl rfl rfl) (by rfl) (gm__after_open T) (k__after_open T) (pa_cons (pv 0) (pa_cons (pe_op o_add (pv 1) pe_int) (pa_cons (pv 2) pa_nil)))) (pa_cons (pe_op o_add (pv 2) pe_int) pa_nil)))) (pg_tup rfl (pgs_cons (pg_name (i := 4) sc__read_choice.nd rfl (Or.inl rfl)) (pgs_cons (pg_name (i := 1) sc__read_choice.nd rfl (Or.inl rfl)) pgs_nil))))
 (pss_cons (ps_asg (pe_callF hv hr (takes_of rfl rfl rfl rfl) (by rfl) (gm__read_value T) (k__read_value T) (pa_cons (pv 0) (pa_cons (pe_callF ((ok__after T).mono (by omega)) hr (takes_of rfl rfl rfl rfl) (by rfl) (gm__after T) (k__after T) (pa_cons (pv 0) (pa_cons (pv 1) (pa_cons pe_str pa_nil)))) (pa_cons (pe_op o_add (pv 2) pe_int) pa_nil)))) (pg_tup rfl (pgs_cons (pg_name (i := 5) sc__read_choice.nd rfl (Or.inl rfl)) (pgs_cons (pg_name (i := 1) sc__read_choice.nd rfl (Or.inl rfl)) pgs_nil))))
 (pss_cons (ps_set (i := 1) sc__read_choice.nd rfl (Or.inl rfl) (pe_callF ((ok__after T).mono (by omega)) hr (takes_of rfl rfl rfl rfl) (by rfl) (gm__after T) (k__after T) (pa_cons (pv 0) (pa_cons (pv 1) (pa_cons pe_str pa_nil)))))
 (pss_cons (ps_if (pt_cmpR (o_eq hr.units) (pv 3) pe_str (nomark _)) (pss_one (ps_ret (pe_tup (pa_cons (pe_makeF (mk_Least T) ((ok_Least___init__ T).mono (by omega)) hr (takes_of rfl rfl rfl rfl) (by rfl) (gm_Least T) (pa_cons (pv 4) (pa_cons (pv 5) pa_nil))) (pa_cons (pv 1) pa_nil))))) pss_nil)
 (pss_one (ps_ret (pe_tup (pa_cons (pe_makeF (mk_Greatest T) ((ok_Greatest___init__ T).mono (by omega)) hr (takes_of rfl rfl rfl rfl) (by rfl) (gm_Greatest T) (pa_cons (pv 4) (pa_cons (pv 5) pa_nil))) (pa_cons (pv 1) pa_nil)))))))))), ?_⟩
    refine g_start (σ := [some (.ref t), some (.int (k : Int)), some (.int (S.length : Int)), none, none, none]) rfl ?_
    walk_at "gg"
    refine g_ixT hw.1 (wd_at hk) ?_
    walk_at "gg"
    refine ⟨t, ws, k + 1, S.length, rfl, hw, fun n1 e1 => ?_, fun ne => q2 _ (.here hk (fun _ => by rw [st_open, if_neg (by rintro ⟨a, b⟩; rcases ne with ne | ne; exact b ne; exact ne a)]) (due_acc (by decide +kernel)))⟩
    have k1 : k + 1 < ws.length := wd_ne_lt (by rw [e1]; decide +kernel)
    have r1 : RunA ws (k + 1) ⟨S, ["open", "after"], si⟩ (k + 1 + 1) ⟨S ++ [2], ["part"], si⟩ := .one k1 (by rw [st_open, if_pos ⟨e1, n1⟩])
    walk_at "gg"
    refine ⟨t, ws, k + 1 + 1, S ++ [2], si, by rw [List.length_append]; rfl, hw, k1, by rw [List.length_append, List.length_singleton]; omega, by rw [List.length_append, List.length_singleton]; omega, fun j p v H2 r2 f2 s2 hp2 => ?_, fun i f => q2 i (.after r1 f)⟩
    have t2 := r1.trans r2
    walk_at "gg"
    refine g_gtup (.inl (.inl hp2)) rfl ?_
    walk_at "gg"
    refine ⟨t, ws, j, _, rfl, hw.same s2, fun e3 => ?_, fun e3 => (q2 _ (.after t2 (.here (r2.top k1) (fun _ => st_bad2 f2 e3) (stack_acc (by simp))))).same s2⟩
    have k3 : j < ws.length := wd_ne_lt (by rw [e3]; decide +kernel)
    have t3 := t2.step k3 (by rw [e3]; exact st_comma)
    walk_at "gg"
    refine ⟨t, ws, j + 1, S ++ [1], si, by rw [List.length_append]; rfl, hw.same s2, k3, by rw [List.length_append, List.length_singleton]; omega, by rw [List.length_append, List.length_singleton]; omega, fun j4 p4 v4 H4 r4 f4 s4 hp4 => ?_, fun i f => (q2 i (.after t3 f)).same s2⟩
    have t4 := t3.trans r4
    have s5 := s2.trans s4
    walk_at "gg"
    refine g_gtup (.inl (.inl hp4)) rfl ?_
    walk_at "gg"
    refine ⟨t, ws, j4, _, rfl, hw.same s5, fun e5 => ?_, fun e5 => (q2 _ (.after t4 (.here (r4.top k3) (fun _ => st_bad1 f4 e5) (stack_acc (by simp))))).same s5⟩
    have k5 : j4 < ws.length := wd_ne_lt (by rw [e5]; decide +kernel)
    have t5 := t4.step k5 (by rw [e5]; exact st_close)
    walk_at "gg"
    refine g_ite (fun c => ?_) (fun c => ?_)
    · walk_at "gg"
      refine g_made2 fun x H6 s6 hx6 => ?_
      walk_at "gg"
      exact ⟨two_le, fun p1 hp1 => q1 _ p1 _ _ t5 trivial ((s5.trans s6).trans (same_new hp1 _)) upd_same⟩
    · walk_at "gg"
      refine g_made2 fun x H6 s6 hx6 => ?_
      walk_at "gg"
      exact ⟨two_le, fun p1 hp1 => q1 _ p1 _ _ t5 trivial ((s5.trans s6).trans (same_new hp1 _)) upd_same⟩
/-! what the part's words are -/
theorem key_of {x : Str} (h : behind x ≠ []) : x = ("least" : Str) ∨ x = ("greatest" : Str) ∨ isMea x = true := by
  unfold behind at h
  split at h
  · rename_i c
    rcases c with c | c
    · exact .inl c
    · exact .inr (.inl c)
  · refine .inr (.inr ?_)
    split at h
    · rename_i c
      rcases c with rfl | rfl <;> decide +kernel
    · split at h
      · rename_i c
        subst c
        decide +kernel
      · split at h
        · rename_i c
          subst c
          decide +kernel
        · split at h
          · rename_i c
            subst c
            decide +kernel
          · split at h
            · rename_i c
              rcases c with rfl | rfl | rfl <;> decide +kernel
            · exact absurd rfl h
theorem mea_cases {x : Str} (h : isMea x = true) : x = ("energy" : Str) ∨ x = ("power" : Str) ∨ x = ("pull" : Str) ∨ x = ("cut" : Str) ∨ x = ("resistance" : Str) ∨ x = ("forests" : Str) ∨ x = ("determinant" : Str) ∨ x = ("cost" : Str) := by
  unfold isMea meaB meaN meaK at h
  rw [Bool.or_eq_true, Bool.or_eq_true, decide_eq_true_eq, decide_eq_true_eq, decide_eq_true_eq] at h
  simp only [List.mem_cons, List.not_mem_nil, or_false] at h
  rcases h with (h | h | h) | (h | h | h) | (h | h) <;> simp [h]
theorem st_mea {S : List Int} {s : Int} {x : Str} (h : isMea x = true) : stepA ⟨S, [("part" : Str)], s⟩ x = some ⟨S, behind x ++ [("after" : Str)], s⟩ := by
  have hb : behind x ≠ [] := by rw [behind_mea h]; simp
  have h1 : ¬ (x = ("(" : Str) ∧ S.length < 12) := by
    rintro ⟨rfl, _⟩
    revert h
    decide +kernel
  have h2 : ¬ okR (tl x) = true := by
    rcases mea_cases h with rfl | rfl | rfl | rfl | rfl | rfl | rfl | rfl <;> decide +kernel
  rw [st_part, if_neg h1, if_neg h2, if_pos hb]
theorem st_lg {S : List Int} {s : Int} {x : Str} (h : x = ("least" : Str) ∨ x = ("greatest" : Str)) : stepA ⟨S, [("part" : Str)], s⟩ x = some ⟨S, ["open", "after"], s⟩ := by
  have hb : behind x = (["open"] : List Str) := if_pos h
  have h1 : ¬ (x = ("(" : Str) ∧ S.length < 12) := by
    rintro ⟨rfl, _⟩
    revert h
    decide +kernel
  have h2 : ¬ okR (tl x) = true := by
    rcases h with rfl | rfl <;> decide +kernel
  rw [st_part, if_neg h1, if_neg h2, if_pos (by rw [hb]; simp), hb]
  rfl
theorem st_par {S : List Int} {s : Int} (h : S.length < 12) : stepA ⟨S, [("part" : Str)], s⟩ ("(" : Str) = some ⟨S ++ [1], ["part"], s⟩ := by
  rw [st_part, if_pos ⟨rfl, h⟩]
theorem st_par12 {S : List Int} {s : Int} (h : S.length = 12) : stepA ⟨S, [("part" : Str)], s⟩ ("(" : Str) = none := by
  rw [st_part, if_neg (by omega), if_neg (by decide +kernel), if_neg (by decide +kernel)]
theorem st_rat {S : List Int} {s : Int} {x : Str} (h0 : x ≠ ("(" : Str)) (h : okR (tl x) = true) : stepA ⟨S, [("part" : Str)], s⟩ x = some ⟨S, ["after"], s⟩ := by
  rw [st_part, if_neg (fun q => h0 q.1), if_pos h]
theorem st_nopart {S : List Int} {s : Int} {x : Str} (h0 : x ≠ ("(" : Str)) (h : okR (tl x) = false) (h1 : ¬ (x = ("least" : Str) ∨ x = ("greatest" : Str))) (h2 : isMea x = false) : stepA ⟨S, [("part" : Str)], s⟩ x = none := by
  rw [st_part, if_neg (fun q => h0 q.1), if_neg (by rw [h]; simp), if_neg]
  intro hb
  rcases key_of hb with e | e | e
  · exact h1 (.inl e)
  · exact h1 (.inr e)
  · rw [h2] at e
    cases e
theorem Ok2.after {H H' : Hp} {Q : VK} {ws : List Str} {k j : Nat} {a b : StA} {S : List Int} {s : Int} {f : Str → Prop} (h : Ok2 H Q ws k a S s f) (r : RunA ws k a j b) (sm : Same H H') : Ok2 H' Q ws j b S s f :=
  fun i p v H2 r2 f2 s2 hp => h i p v H2 (r.trans r2) f2 (sm.trans s2) hp
theorem ok__read_part {n L : Nat} (hv : FnR P w K mg base (L2.CX P w) (L + 8) (ga K "_read_value") (spV K n notop)) (T : Tx fxL fnL K mg) : FnR P w K mg base (L2.CX P w) (L + 10) (ga K "_read_part") (spV K (n + 1) fun _ => True) := by
  refine fun_ok (F__read_part T) sc__read_part (fun _ _ _ _ _ _ us hl => match us, hl with | [_, _, _], _ => rfl) ?_ ?_
  · rintro vs H Q E ⟨t, ws, k, S, s, rfl, _⟩
    rfl
  · rintro cdv A outer s H vs Q E hr ⟨t, ws, k, S, si, rfl, hw, hk, hS, hn, q1, q2⟩
    have hc := ok__read_choice hv T
    have hv' := hv.mono (show L + 8 ≤ L + 9 by omega)
    refine ⟨_, (pss_cons (ps_set (i := 3) sc__read_part.nd rfl (Or.inl rfl) (pe_callF ((ok__word T).mono (by omega)) hr (takes_of rfl rfl rfl rfl) (by rfl) (gm__word T) (k__word T) (pa_cons (pv 0) (pa_cons (pv 1) pa_nil))))
 (pss_cons (ps_if (pt_cmpR (o_eq hr.units) (pv 3) pe_str (nomark _)) (pss_cons (ps_asg (pe_callF hv' hr (takes_of rfl rfl rfl rfl) (by rfl) (gm__read_value T) (k__read_value T) (pa_cons (pv 0) (pa_cons (pe_callF ((ok__after_open T).mono (by omega)) hr (takes_of rfl rfl rfl rfl) (by rfl) (gm__after_open T) (k__after_open T) (pa_cons (pv 0) (pa_cons (pv 1) (pa_cons (pv 2) pa_nil)))) (pa_cons (pe_op o_add (pv 2) pe_int) pa_nil)))) (pg_tup rfl (pgs_cons (pg_name (i := 4) sc__read_part.nd rfl (Or.inl rfl)) (pgs_cons (pg_name (i := 1) sc__read_part.nd rfl (Or.inl rfl)) pgs_nil))))
 (pss_one (ps_ret (pe_tup (pa_cons (pv 4) (pa_cons (pe_callF ((ok__after T).mono (by omega)) hr (takes_of rfl rfl rfl rfl) (by rfl) (gm__after T) (k__after T) (pa_cons (pv 0) (pa_cons (pv 1) (pa_cons pe_str pa_nil)))) pa_nil)))))) pss_nil)
 (pss_cons (ps_if (pt_cmpR o_in (pv 3) (pe_tup (pa_cons pe_str (pa_cons pe_str pa_nil))) (by rfl)) (pss_one (ps_ret (pe_callF hc hr (takes_of rfl rfl rfl rfl) (by rfl) (gm__read_choice T) (k__read_choice T) (pa_cons (pv 0) (pa_cons (pv 1) (pa_cons (pv 2) pa_nil)))))) pss_nil)
 (pss_cons (ps_if (pt_val (pe_callF ((ok_is_measure T).mono (by omega)) hr (takes_of rfl rfl rfl rfl) (by rfl) (gm_is_measure T) (k_is_measure T) (pa_cons (pv 3) pa_nil))) (pss_one (ps_ret (pe_callF ((ok__read_measure T).mono (by omega)) hr (takes_of rfl rfl rfl rfl) (by rfl) (gm__read_measure T) (k__read_measure T) (pa_cons (pv 0) (pa_cons (pv 1) pa_nil))))) pss_nil)
 (pss_cons (ps_if (pt_not (pt_val (pe_callF ((ok_is_ratio_text T).mono (by omega)) hr (takes_of rfl rfl rfl rfl) (by rfl) (gm_is_ratio_text T) (k_is_ratio_text T) (pa_cons (pv 3) pa_nil)))) (pss_one (ps_raise rfl (takes_of rfl rfl rfl rfl) (pmk_oexF (ex_BadQuestion T) (ii_BadQuestion T) (it_BadQuestion T) ((ok_BadQuestion___init__ T).mono (by omega)) hr (by rfl) (gm_BadQuestion T) (pa_cons (pv 1) pa_nil)))) pss_nil)
 (pss_one (ps_ret (pe_tup (pa_cons (pe_makeF (mk_Number T) ((ok_Number___init__ T).mono (by omega)) hr (takes_of rfl rfl rfl rfl) (by rfl) (gm_Number T) (pa_cons (pe_cmethF (by rfl) (gm_Ratio T) (cr_Ratio T) (cm_Ratio_read T) ((ok_Ratio_read T).mono (by omega)) hr (takes_of rfl rfl rfl rfl) (pa_cons (pv 3) pa_nil)) pa_nil)) (pa_cons (pe_op o_add (pv 1) pe_int) pa_nil)))))))))), ?_⟩
    refine g_start (σ := [some (.ref t), some (.int (k : Int)), some (.int (S.length : Int)), none, none]) rfl ?_
    walk_at "gg"
    refine ⟨t, ws, k, rfl, hw, ?_⟩
    walk_at "gg"
    refine g_ite (fun c1 => ?_) (fun c1 => ?_)
    · have k1 : k < ws.length := wd_ne_lt (by rw [c1]; decide +kernel)
      walk_at "gg"
      refine ⟨t, ws, k, S.length, rfl, hw, fun n1 _ => ?_, fun ne => q2 _ (.here hk (fun _ => by
        rcases ne with ne | ne
        · rw [c1]; exact st_par12 ne
        · exact absurd c1 ne) (due_acc (by decide +kernel)))⟩
      have r1 : RunA ws k ⟨S, ["part"], si⟩ (k + 1) ⟨S ++ [1], ["part"], si⟩ := .one k1 (by rw [c1]; exact st_par (by omega))
      walk_at "gg"
      refine ⟨t, ws, k + 1, S ++ [1], si, by rw [List.length_append]; rfl, hw, k1, by rw [List.length_append, List.length_singleton]; omega, by rw [List.length_append, List.length_singleton]; omega, fun j p v H2 r2 f2 s2 hp2 => ?_, fun i f => q2 i (.after r1 f)⟩
      have t2 := r1.trans r2
      walk_at "gg"
      refine g_gtup (.inl (.inl hp2)) rfl ?_
      walk_at "gg"
      refine ⟨t, ws, j, _, rfl, hw.same s2, fun e3 => ?_, fun e3 => (q2 _ (.after t2 (.here (r2.top k1) (fun _ => st_bad1 f2 e3) (stack_acc (by simp))))).same s2⟩
      have k3 : j < ws.length := wd_ne_lt (by rw [e3]; decide +kernel)
      walk_at "gg"
      exact ⟨two_le, fun p1 hp1 => q1 _ p1 _ _ (t2.step k3 (by rw [e3]; exact st_close)) trivial (s2.trans (same_new hp1 _)) upd_same⟩
    · walk_at "gg"
      refine ⟨two_le, fun m hm => ?_⟩
      have s1 := same_new hm (.tup [V.str "least", V.str "greatest"])
      walk_at "gg"
      refine g_inT (.inl (.inl upd_same)) rfl rfl ?_
      rw [strs2, inV_strs]
      walk_at "gg"
      refine g_ite (fun c2 => ?_) (fun c2 => ?_)
      · have c2' := mem2.mp c2
        have k1 : k < ws.length := wd_ne_lt (by rcases c2' with h | h <;> rw [h] <;> decide +kernel)
        have r1 : RunA ws k ⟨S, ["part"], si⟩ (k + 1) ⟨S, ["open", "after"], si⟩ := .one k1 (st_lg c2')
        walk_at "gg"
        exact ⟨t, ws, k, S, si, rfl, hw.same s1, k1, c2', hS, hn, q1.after r1 s1, fun i f => (q2 i (.after r1 f)).same s1⟩
      · have c2' := fun h => c2 (mem2.mpr h)
        walk_at "gg"
        refine ⟨_, rfl, ?_⟩
        walk_at "gg"
        refine g_iteB (fun c3 => ?_) (fun c3 => ?_)
        · have k1 : k < ws.length := wd_ne_lt (by rcases mea_cases c3 with h | h | h | h | h | h | h | h <;> rw [h] <;> decide +kernel)
          have r1 : RunA ws k ⟨S, ["part"], si⟩ (k + 1) ⟨S, behind (wd ws k) ++ [("after" : Str)], si⟩ := .one k1 (st_mea c3)
          walk_at "gg"
          exact ⟨t, ws, k, S, si, rfl, hw.same s1, k1, c3, q1.after r1 s1, fun i f => (q2 i (.after r1 f)).same s1⟩
        · walk_at "gg"
          refine ⟨_, rfl, hw.2.2 k, fun H2 s2 => ?_⟩
          have s3 := s1.trans s2
          walk_at "gg"
          refine g_iteNB (fun c4 => ?_) (fun c4 => ?_)
          · have k1 : k < ws.length := wd_ne_lt (okR_ne c4)
            have r1 : RunA ws k ⟨S, ["part"], si⟩ (k + 1) ⟨S, ["after"], si⟩ := .one k1 (st_rat c1 c4)
            walk_at "gg"
            refine ⟨_, rfl, hw.2.2 k, fun _ p4 H4 s4 _ _ => ?_, fun z => by rw [c4] at z; cases z⟩
            walk_at "gg"
            refine g_made1 fun x H6 s6 hx6 => ?_
            walk_at "gg"
            exact ⟨two_le, fun p1 hp1 => q1 _ p1 _ _ r1 trivial (((s3.trans s4).trans s6).trans (same_new hp1 _)) upd_same⟩
          · walk_at "gg"
            exact g_badq ((q2 _ (.here hk (fun _ => st_nopart c1 c4 c2' c3) (due_acc (by decide +kernel)))).same s3)
def notmul (x : Str) : Prop := x ≠ ("*" : Str)
theorem ok__read_term {n L : Nat} (hv : FnR P w K mg base (L2.CX P w) (L + 8) (ga K "_read_value") (spV K n notop)) (T : Tx fxL fnL K mg) : FnR P w K mg base (L2.CX P w) (L + 11) (ga K "_read_term") (spV K (n + 1) notmul) := by
  refine fun_ok (F__read_term T) sc__read_term (fun _ _ _ _ _ _ us hl => match us, hl with | [_, _, _], _ => rfl) ?_ ?_
  · rintro vs H Q E ⟨t, ws, k, S, s, rfl, _⟩
    rfl
  · rintro cdv A outer s H vs Q E hr ⟨t, ws, k, S, si, rfl, hw, hk, hS, hn, q1, q2⟩
    have hp := ok__read_part hv T
    refine ⟨_, (pss_cons (ps_asg (pe_callF hp hr (takes_of rfl rfl rfl rfl) (by rfl) (gm__read_part T) (k__read_part T) (pa_cons (pv 0) (pa_cons (pv 1) (pa_cons (pv 2) pa_nil)))) (pg_tup rfl (pgs_cons (pg_name (i := 3) sc__read_term.nd rfl (Or.inl rfl)) (pgs_cons (pg_name (i := 1) sc__read_term.nd rfl (Or.inl rfl)) pgs_nil))))
 (pss_cons (ps_while (passes_of rfl) (pt_cmpR (o_eq hr.units) (pe_callF ((ok__word T).mono (by omega)) hr (takes_of rfl rfl rfl rfl) (by rfl) (gm__word T) (k__word T) (pa_cons (pv 0) (pa_cons (pv 1) pa_nil))) pe_str (nomark _)) (pss_cons (ps_asg (pe_callF hp hr (takes_of rfl rfl rfl rfl) (by rfl) (gm__read_part T) (k__read_part T) (pa_cons (pv 0) (pa_cons (pe_op o_add (pv 1) pe_int) (pa_cons (pv 2) pa_nil)))) (pg_tup rfl (pgs_cons (pg_name (i := 4) sc__read_term.nd rfl (Or.inl rfl)) (pgs_cons (pg_name (i := 1) sc__read_term.nd rfl (Or.inl rfl)) pgs_nil))))
 (pss_one (ps_set (i := 3) sc__read_term.nd rfl (Or.inl rfl) (pe_makeF (mk_Product T) ((ok_Product___init__ T).mono (by omega)) hr (takes_of rfl rfl rfl rfl) (by rfl) (gm_Product T) (pa_cons (pv 3) (pa_cons (pv 4) pa_nil)))))))
 (pss_one (ps_ret (pe_tup (pa_cons (pv 3) (pa_cons (pv 1) pa_nil))))))), ?_⟩
    refine g_start (σ := [some (.ref t), some (.int (k : Int)), some (.int (S.length : Int)), none, none]) rfl ?_
    walk_at "gg"
    refine ⟨t, ws, k, S, si, rfl, hw, hk, hS, hn, fun j p v H2 r2 _ s2 hp2 => ?_, q2⟩
    walk_at "gg"
    refine g_gtup (.inl (.inl hp2)) rfl ?_
    walk_at "gg"
    refine w_in (fun m σ' H' => ∃ (j : Nat) (tv : V) (ov : Option V), m = ws.length - j ∧ σ' = [some (.ref t), some (.int (j : Int)), some (.int (S.length : Int)), some tv, ov] ∧ RunA ws k ⟨S, ["part"], si⟩ j ⟨S, ["after"], si⟩ ∧ Same H H')
      _ ⟨j, _, _, rfl, rfl, r2, s2⟩ ?_
    rintro m σ' H3 ⟨i, tv, ov, rfl, rfl, r3, s3⟩
    have hi := r3.top hk
    walk_at "gg"
    refine ⟨t, ws, i, rfl, hw.same s3, ?_⟩
    walk_at "gg"
    refine g_ite (fun c => w_go ?_) (fun c => ?_)
    · have k3 : i < ws.length := wd_ne_lt (by rw [c]; decide +kernel)
      have t3 := r3.step k3 (st_op (.inr (.inr c)))
      walk_at "gg"
      refine ⟨t, ws, i + 1, S, si, rfl, hw.same s3, k3, hS, hn, fun j4 p4 v4 H4 r4 _ s4 hp4 => ?_, fun i f => (q2 i (.after t3 f)).same s3⟩
      walk_at "gg"
      refine g_gtup (.inl (.inl hp4)) rfl ?_
      walk_at "gg"
      refine g_made2 fun x H6 s6 hx6 => ?_
      walk_at "gg"
      have := r4.le
      exact ⟨_, by omega, j4, _, _, rfl, rfl, t3.trans r4, (s3.trans s4).trans s6⟩
    · walk_at "gg"
      exact ⟨two_le, fun p1 hp1 => q1 _ p1 _ _ r3 c (s3.trans (same_new hp1 _)) upd_same⟩
end
end My
namespace My
open PySem PySem.Spec PyProof.Rows L2 He He5 Go NumT RatA TL TxtA
/-! ### texts cut at spaces -/
theorem spl_bound : ∀ (l acc : List Nat), (spl [32] 0 acc l).length ≤ l.length + 1 ∧ ∀ p ∈ spl [32] 0 acc l, p.length ≤ acc.length + l.length
  | [], acc => by
    rw [spl_nil]
    refine ⟨by simp, fun p hp => ?_⟩
    rw [List.mem_singleton.mp hp]
    omega
  | c :: r, acc => by
    cases hp : pre [32] (c :: r) with
    | true =>
      rw [spl_hit hp]
      obtain ⟨h1, h2⟩ := spl_bound r []
      refine ⟨by show (spl [32] 0 [] r).length + 1 ≤ r.length + 1 + 1; omega, fun p q => ?_⟩
      rcases List.mem_cons.mp q with rfl | q
      · omega
      · have := h2 p q
        rw [List.length_nil] at this
        rw [List.length_cons]
        omega
    | false =>
      rw [spl_miss hp]
      obtain ⟨h1, h2⟩ := spl_bound r (acc ++ [c])
      refine ⟨by rw [List.length_cons]; omega, fun p q => ?_⟩
      have := h2 p q
      rw [List.length_append, List.length_singleton] at this
      rw [List.length_cons]
      omega
theorem split_tl (x : Str) : (Txt.split x (" " : Str)).map tl = spl [32] 0 [] (tl x) := by
  rw [split_spl x _ (by rw [space_tl]; simp) (kind_ok (by decide +kernel)), space_tl]
theorem split_len (x : Str) : (Txt.split x (" " : Str)).length ≤ x.length + 1 := by
  have := (spl_bound (tl x) []).1
  rw [← split_tl, List.length_map] at this
  rw [len_tl x]
  exact this
theorem split_word (x : Str) {y : Str} (h : y ∈ Txt.split x (" " : Str)) : y.length ≤ x.length := by
  have := (spl_bound (tl x) []).2 (tl y) (by rw [← split_tl]; exact List.mem_map.mpr ⟨y, h, rfl⟩)
  rw [List.length_nil] at this
  rw [len_tl x, len_tl y]
  omega
theorem wd_mem {ws : List Str} {k : Nat} (h : k < ws.length) : wd ws k ∈ ws := List.mem_of_getElem? (wd_lt h)
theorem wd_bound {ws : List Str} {n : Nat} (h : ∀ y ∈ ws, y.length ≤ n) (k : Nat) : (wd ws k).length ≤ n := by
  by_cases c : k < ws.length
  · exact h _ (wd_mem c)
  · rw [wd_ge c]
    exact Nat.zero_le _
/-! ### what the law tells of words -/
theorem RunA.fn {ws : List Str} {k j : Nat} {a b c : StA} (h1 : RunA ws k a j b) (h2 : RunA ws k a j c) : b = c := by
  induction h1 generalizing c with
  | refl =>
    cases h2 with
    | refl => rfl
    | step h hj hs => have := h.le; omega
  | step h hj hs ih =>
    cases h2 with
    | refl => have := h.le; omega
    | step h' hj' hs' =>
      have e := ih h'
      subst e
      rw [hs] at hs'
      exact Option.some.inj hs'
/-- a run that goes on passes through each place -/
theorem RunA.mid {ws : List Str} {k j i : Nat} {a b : StA} (h : RunA ws k a j b) (h1 : k ≤ i) (h2 : i < j) : ∃ c d, RunA ws k a i c ∧ stepA c (wd ws i) = some d := by
  induction h with
  | refl => omega
  | step h hj hs ih =>
    rename_i n0 a0 b0 c0
    by_cases e : i = n0
    · subst e
      exact ⟨_, _, h, hs⟩
    · exact ih (by omega)
def initA : StA := ⟨[], [("part" : Str)], 1⟩
/-- the place r that the law's automaton tells of the words ws -/
def LawAt (ws : List Str) (r : Int) : Prop := (∃ (i : Nat) (b : StA), RunA (ws.take 200) 0 initA i b ∧ i < (ws.take 200).length ∧ stepA b (wd (ws.take 200) i) = none ∧ r = i) ∨
  (∃ b : StA, RunA (ws.take 200) 0 initA (ws.take 200).length b ∧ ((200 < ws.length ∧ r = 200) ∨ (ws.length ≤ 200 ∧ ¬ accA b ∧ r = ws.length) ∨ (ws.length ≤ 200 ∧ accA b ∧ r = -1)))
theorem LawAt.fn {ws : List Str} {r r' : Int} (h1 : LawAt ws r) (h2 : LawAt ws r') : r = r' := by
  rcases h1 with ⟨i, b, r1, l1, n1, rfl⟩ | ⟨b, r1, q1⟩ <;> rcases h2 with ⟨j, c, r2, l2, n2, rfl⟩ | ⟨c, r2, q2⟩
  · rcases Nat.lt_trichotomy i j with h | h | h
    · obtain ⟨x, y, r3, e⟩ := r2.mid (Nat.zero_le _) h
      have := r1.fn r3
      subst this
      rw [n1] at e
      cases e
    · rw [h]
    · obtain ⟨x, y, r3, e⟩ := r1.mid (Nat.zero_le _) h
      have := r2.fn r3
      subst this
      rw [n2] at e
      cases e
  · obtain ⟨x, y, r3, e⟩ := r2.mid (Nat.zero_le _) l1
    have := r1.fn r3
    subst this
    rw [n1] at e
    cases e
  · obtain ⟨x, y, r3, e⟩ := r1.mid (Nat.zero_le _) l2
    have := r2.fn r3
    subst this
    rw [n2] at e
    cases e
  · have := r1.fn r2
    subst this
    rcases q1 with ⟨a, q⟩ | ⟨a, q, r⟩ | ⟨a, q, r⟩ <;> rcases q2 with ⟨a', q'⟩ | ⟨a', q', r'⟩ | ⟨a', q', r'⟩
    · omega
    · omega
    · omega
    · omega
    · omega
    · exact absurd q' q
    · omega
    · exact absurd q q'
    · omega
theorem take_len (ws : List Str) : (ws.take 200).length = min 200 ws.length := List.length_take
theorem LawAt.fail {ws : List Str} {i : Nat} (h : FailA (ws.take 200) 0 initA i) : LawAt ws i := by
  obtain ⟨b, r, hi, h1, h2⟩ := h
  by_cases c : i < (ws.take 200).length
  · exact .inl ⟨i, b, r, c, h1 c, rfl⟩
  · have e : i = (ws.take 200).length := by omega
    rw [e] at r
    refine .inr ⟨b, r, ?_⟩
    have l := take_len ws
    by_cases d : 200 < ws.length
    · exact .inl ⟨d, by omega⟩
    · exact .inr (.inl ⟨by omega, h2 e, by omega⟩)
theorem st_end {s : Int} {x : Str} (h : notop x) (h2 : x ≠ ("<=" : Str) ∨ s ≠ 1) : stepA ⟨[], [("after" : Str)], s⟩ x = none := by
  rw [st_after, if_neg (not_op h), if_neg (by rintro ⟨a, _, c⟩; rcases h2 with h2 | h2; exact h2 a; exact h2 c), if_neg (by rintro ⟨_, q⟩; simp at q), if_neg (by rintro ⟨_, q⟩; simp at q)]
/-- where the reading of values ends -/
theorem LawAt.stop {ws : List Str} {j : Nat} {s : Int} (r : RunA (ws.take 200) 0 initA j ⟨[], [("after" : Str)], s⟩) (h : notop (wd (ws.take 200) j)) (h2 : wd (ws.take 200) j ≠ ("<=" : Str) ∨ s ≠ 1) :
    (j < ws.length ∧ LawAt ws j) ∨ (¬ j < ws.length ∧ LawAt ws (-1)) := by
  have l := take_len ws
  have t := r.top (Nat.zero_le _)
  by_cases c : j < (ws.take 200).length
  · exact .inl ⟨by omega, .inl ⟨j, _, r, c, st_end h h2, rfl⟩⟩
  · have e : j = (ws.take 200).length := by omega
    rw [e] at r ⊢
    by_cases d : 200 < ws.length
    · exact .inl ⟨by omega, .inr ⟨_, r, .inl ⟨d, by omega⟩⟩⟩
    · exact .inr ⟨by omega, .inr ⟨_, r, .inr (.inr ⟨by omega, ⟨rfl, rfl⟩, rfl⟩)⟩⟩
theorem st_le {x : Str} (h : x = ("<=" : Str)) : stepA ⟨[], [("after" : Str)], 1⟩ x = some ⟨[], ["part"], 2⟩ := by
  rw [st_after, if_neg (by rw [h]; decide +kernel), if_pos ⟨h, rfl, rfl⟩]
end My
namespace My
open PySem PySem.Spec PyProof.Rows L2 He He5 Go NumT RatA TL TxtA
local macro_rules | `(tactic| walk_at "gv") => `(tactic| first
  | with_reducible refine g_v0 ?_ | with_reducible refine g_v1 ?_ | with_reducible refine g_v2 ?_ | with_reducible refine g_v3 ?_ | with_reducible refine g_v4 ?_ | with_reducible refine g_v5 ?_
  | with_reducible refine g_v6 ?_ | with_reducible refine g_v7 ?_ | with_reducible refine g_v8 ?_ | with_reducible refine g_v9 ?_ | with_reducible refine g_v10 ?_ | with_reducible refine g_v11 ?_ | with_reducible refine g_v12 ?_)
local macro_rules | `(tactic| walk_at "gn") => `(tactic| first
  | with_reducible refine g_n0 ?_ | with_reducible refine g_n1 ?_ | with_reducible refine g_n2 ?_ | with_reducible refine g_n3 ?_ | with_reducible refine g_n4 ?_ | with_reducible refine g_n5 ?_
  | with_reducible refine g_n6 ?_ | with_reducible refine g_n7 ?_ | with_reducible refine g_n8 ?_ | with_reducible refine g_n9 ?_ | with_reducible refine g_n10 ?_ | with_reducible refine g_n11 ?_ | with_reducible refine g_n12 ?_)
local macro_rules | `(tactic| walk_at "gs") => `(tactic| first
  | with_reducible refine g_asg ?_ | with_reducible refine g_ret ?_ | with_reducible refine g_if ?_ | with_reducible refine g_drop ?_ | with_reducible refine g_next ?_
  | with_reducible refine g_retN ?_ | with_reducible refine g_brk ?_ | with_reducible refine g_cont ?_ | with_reducible refine g_forA ?_ | with_reducible refine g_sfld ?_)
local macro_rules | `(tactic| walk_at "ge") => `(tactic| first
  | with_reducible refine g_c ?_ | with_reducible refine g_op ?_ | with_reducible refine g_test ?_ | with_reducible refine g_bl ?_ | with_reducible refine g_tB ?_ | with_reducible refine g_not ?_
  | with_reducible refine g_and ?_ | with_reducible refine g_or ?_ | with_reducible refine g_notV ?_ | with_reducible refine g_andV ?_ | with_reducible refine g_orV ?_ | with_reducible refine g_ifE ?_
  | with_reducible refine g_un ?_ | with_reducible refine g_chain ?_ | with_reducible refine g_nil ?_ | with_reducible refine g_cons ?_ | with_reducible refine g_tup ?_ | with_reducible refine g_lst ?_
  | with_reducible refine g_cb ?_ | with_reducible refine g_call ?_ | with_reducible refine g_cmeth ?_ | with_reducible refine g_make ?_ | with_reducible refine g_noPart ?_ | with_reducible refine g_part ?_
  | with_reducible refine g_partI ?_ | with_reducible refine g_sl ?_ | with_reducible refine g_m1 ?_ | with_reducible refine g_m0 ?_ | with_reducible refine g_isS ?_ | with_reducible refine g_gsub ?_
  | with_reducible refine g_gcons ?_ | with_reducible refine g_gnil ?_ | with_reducible refine g_bm ?_ | with_reducible refine g_bm0 ?_ | with_reducible refine g_mk ?_ | with_reducible refine g_lc ?_ | with_reducible refine g_fld ?_ | with_reducible refine g_yes ?_)
local macro_rules | `(tactic| walk_at "go_") => `(tactic| first
  | with_reducible refine g_addI ?_ | with_reducible refine g_subI ?_ | with_reducible refine g_ltI ?_ | with_reducible refine g_leI ?_ | with_reducible refine g_gtI ?_ | with_reducible refine g_geI ?_
  | with_reducible refine g_eqI ?_ | with_reducible refine g_eqS ?_ | with_reducible refine g_neI ?_ | with_reducible refine g_neS ?_
  | with_reducible refine g_isNn ?_ | with_reducible refine g_isNi ?_ | with_reducible refine g_isNs ?_ | with_reducible refine g_isNr ?_
  | with_reducible refine g_notNn ?_ | with_reducible refine g_notNi ?_ | with_reducible refine g_notNs ?_ | with_reducible refine g_notNr ?_ | with_reducible refine g_neg ?_
  | with_reducible refine g_inS ?_ | with_reducible refine g_niS ?_ | with_reducible refine g_iteT ?_ | with_reducible refine g_iteF ?_ | with_reducible refine g_iteNT ?_ | with_reducible refine g_iteNF ?_
  | with_reducible refine g_intI ?_ | with_reducible refine g_intB ?_ | with_reducible refine g_gcd ?_ | with_reducible refine g_max2 ?_ | with_reducible refine g_min2 ?_ | with_reducible refine g_stw ?_ | with_reducible refine g_abs ?_
  | with_reducible refine g_iStr ?_ | with_reducible refine g_exS ?_ | with_reducible refine g_iList ?_ | with_reducible refine g_iTup ?_ | with_reducible refine g_iR1 ?_ | with_reducible refine g_iR2 ?_ | with_reducible refine g_exR1 (by omega) (by omega) ?_ | with_reducible refine g_exR2 (by omega) ?_)
local macro_rules | `(tactic| walk_at "go1") => `(tactic| first | walk_at "gs" | with_reducible refine g_seq ?_ | walk_at "gv" | walk_at "ge" | walk_at "gn" | walk_at "go_")
local macro_rules | `(tactic| walk_at "go") => `(tactic| repeat walk_at "go1")
local macro_rules | `(tactic| walk_at "gl") => `(tactic| first
  | with_reducible refine g_lenS (by assumption) ?_ | with_reducible refine g_lenL (by assumption) ?_ | with_reducible refine g_lenT (by assumption) ?_ | with_reducible refine g_exL (by assumption) ?_ | with_reducible refine g_exT (by assumption) ?_)
local macro_rules | `(tactic| walk_at "gw") => `(tactic| repeat (first | walk_at "gs" | walk_at "gv" | walk_at "ge" | walk_at "gn" | walk_at "go_" | walk_at "gl"))
local macro_rules | `(tactic| walk_at "go2") => `(tactic| first | walk_at "go1" | walk_at "gl")
local macro_rules | `(tactic| walk_at "gg") => `(tactic| repeat walk_at "go2")

section
variable {P : Program} {w : World} {K : PySem.W.Frag} {mg : Str → Option Value} {base : Heap}
theorem step__read_value {n L : Nat} (hv : FnR P w K mg base (L2.CX P w) (L + 8) (ga K "_read_value") (spV K n notop)) (T : Tx fxL fnL K mg) : FnR P w K mg base (L2.CX P w) (L + 12) (ga K "_read_value") (spV K (n + 1) notop) := by
  refine fun_ok (F__read_value T) sc__read_value (fun _ _ _ _ _ _ us hl => match us, hl with | [_, _, _], _ => rfl) ?_ ?_
  · rintro vs H Q E ⟨t, ws, k, S, s, rfl, _⟩
    rfl
  · rintro cdv A outer s H vs Q E hr ⟨t, ws, k, S, si, rfl, hw, hk, hS, hn, q1, q2⟩
    have hp := ok__read_term hv T
    refine ⟨_, (pss_cons (ps_asg (pe_callF hp hr (takes_of rfl rfl rfl rfl) (by rfl) (gm__read_term T) (k__read_term T) (pa_cons (pv 0) (pa_cons (pv 1) (pa_cons (pv 2) pa_nil)))) (pg_tup rfl (pgs_cons (pg_name (i := 3) sc__read_value.nd rfl (Or.inl rfl)) (pgs_cons (pg_name (i := 1) sc__read_value.nd rfl (Or.inl rfl)) pgs_nil))))
 (pss_cons (ps_while (passes_of rfl) (pt_cmpR o_in (pe_callF ((ok__word T).mono (by omega)) hr (takes_of rfl rfl rfl rfl) (by rfl) (gm__word T) (k__word T) (pa_cons (pv 0) (pa_cons (pv 1) pa_nil))) (pe_tup (pa_cons pe_str (pa_cons pe_str pa_nil))) (by rfl)) (pss_cons (ps_set (i := 4) sc__read_value.nd rfl (Or.inl rfl) (pe_ix ix_seq (pv 0) (pv 1) (fun _ _ => rfl)))
 (pss_cons (ps_asg (pe_callF hp hr (takes_of rfl rfl rfl rfl) (by rfl) (gm__read_term T) (k__read_term T) (pa_cons (pv 0) (pa_cons (pe_op o_add (pv 1) pe_int) (pa_cons (pv 2) pa_nil)))) (pg_tup rfl (pgs_cons (pg_name (i := 5) sc__read_value.nd rfl (Or.inl rfl)) (pgs_cons (pg_name (i := 1) sc__read_value.nd rfl (Or.inl rfl)) pgs_nil))))
 (pss_one (ps_if (pt_cmpR (o_eq hr.units) (pv 4) pe_str (nomark _)) (pss_one (ps_set (i := 3) sc__read_value.nd rfl (Or.inl rfl) (pe_makeF (mk_Sum T) ((ok_Sum___init__ T).mono (by omega)) hr (takes_of rfl rfl rfl rfl) (by rfl) (gm_Sum T) (pa_cons (pv 3) (pa_cons (pv 5) pa_nil))))) (pss_one (ps_set (i := 3) sc__read_value.nd rfl (Or.inl rfl) (pe_makeF (mk_Difference T) ((ok_Difference___init__ T).mono (by omega)) hr (takes_of rfl rfl rfl rfl) (by rfl) (gm_Difference T) (pa_cons (pv 3) (pa_cons (pv 5) pa_nil))))))))))
 (pss_one (ps_ret (pe_tup (pa_cons (pv 3) (pa_cons (pv 1) pa_nil))))))), ?_⟩
    refine g_start (σ := [some (.ref t), some (.int (k : Int)), some (.int (S.length : Int)), none, none, none]) rfl ?_
    walk_at "gg"
    refine ⟨t, ws, k, S, si, rfl, hw, hk, hS, hn, fun j p v H2 r2 f2 s2 hp2 => ?_, q2⟩
    walk_at "gg"
    refine g_gtup (.inl (.inl hp2)) rfl ?_
    walk_at "gg"
    refine w_in (fun m σ' H' => ∃ (j : Nat) (tv : V) (ov nv : Option V), m = ws.length - j ∧ σ' = [some (.ref t), some (.int (j : Int)), some (.int (S.length : Int)), some tv, ov, nv] ∧ RunA ws k ⟨S, ["part"], si⟩ j ⟨S, ["after"], si⟩ ∧ notmul (wd ws j) ∧ Same H H')
      _ ⟨j, _, _, _, rfl, rfl, r2, f2, s2⟩ ?_
    rintro m σ' H3 ⟨i, tv, ov, nv, rfl, rfl, r3, f3, s3⟩
    have hi := r3.top hk
    walk_at "gg"
    refine ⟨t, ws, i, rfl, hw.same s3, ?_⟩
    walk_at "gg"
    refine ⟨two_le, fun m hm => ?_⟩
    have s4 := s3.trans (same_new hm (.tup [V.str "+", V.str "-"]))
    walk_at "gg"
    refine g_inT (.inl (.inl upd_same)) rfl rfl ?_
    rw [strs2, inV_strs]
    walk_at "gg"
    refine g_ite (fun c => w_go ?_) (fun c => ?_)
    · have c' := mem2.mp c
      have k3 : i < ws.length := wd_ne_lt (by rcases c' with h | h <;> rw [h] <;> decide +kernel)
      have t3 := r3.step k3 (st_op (by rcases c' with h | h; exact .inl h; exact .inr (.inl h)))
      have hT : SqT _ _ t (ws.map V.str) := (hw.same s4).1
      walk_at "gg"
      refine g_ixT hT (wd_at k3) ?_
      walk_at "gg"
      refine ⟨t, ws, i + 1, S, si, rfl, hw.same s4, k3, hS, hn, fun j4 p4 v4 H4 r4 f4 s5 hp4 => ?_, fun i f => (q2 i (.after t3 f)).same s4⟩
      have s6 := s4.trans s5
      have := r4.le
      walk_at "gg"
      refine g_gtup (.inl (.inl hp4)) rfl ?_
      walk_at "gg"
      refine g_ite (fun d => ?_) (fun d => ?_)
      · walk_at "gg"
        refine g_made2 fun x H6 s7 hx6 => ?_
        walk_at "gg"
        exact ⟨_, by omega, j4, _, _, _, rfl, rfl, t3.trans r4, f4, s6.trans s7⟩
      · walk_at "gg"
        refine g_made2 fun x H6 s7 hx6 => ?_
        walk_at "gg"
        exact ⟨_, by omega, j4, _, _, _, rfl, rfl, t3.trans r4, f4, s6.trans s7⟩
    · walk_at "gg"
      refine ⟨two_le, fun p1 hp1 => q1 _ p1 _ _ r3 ⟨f3, fun e => c (mem2.mpr (.inl e)), fun e => c (mem2.mpr (.inr e))⟩ (s4.trans (same_new hp1 _)) upd_same⟩
theorem fnr_none {f : Addr} {k : Nat} {sp : Sp} (h : ∀ vs H Q E, ¬ sp vs H Q E) : FnR P w K mg base (L2.CX P w) k f sp :=
  fun A st s H us vs Q E hr e r q => absurd q (h _ _ _ _)
theorem all__read_value (T : Tx fxL fnL K mg) : ∀ n : Nat, FnR P w K mg base (L2.CX P w) (n * 4 + 8) (ga K "_read_value") (spV K n notop)
  | 0 => fnr_none fun vs H Q E h => by
    obtain ⟨t, ws, k, S, s, _, _, _, h1, h2, _⟩ := h
    omega
  | n + 1 => by
    have := step__read_value (n := n) (L := n * 4) (all__read_value T n) T
    rw [show (n + 1) * 4 + 8 = n * 4 + 12 by omega]
    exact this
def spVal0 (K : PySem.W.Frag) : Sp := fun vs H Q E => ∃ (t : Addr) (ws : List Str) (k : Nat) (s : Int), vs = [.ref t, .int (k : Int), .int 0] ∧ WdAt K H t ws ∧ k ≤ ws.length ∧
  Ok2 H Q ws k ⟨[], ["part"], s⟩ [] s notop ∧ (∀ i, FailA ws k ⟨[], ["part"], s⟩ i → Bad K E H i)
theorem ok__read_value (T : Tx fxL fnL K mg) : FnR P w K mg base (L2.CX P w) 60 (ga K "_read_value") (spVal0 K) :=
  (all__read_value T 13).imp fun vs H Q E ⟨t, ws, k, s, e, hw, hk, q1, q2⟩ => ⟨t, ws, k, [], s, e, hw, hk, by decide, by decide, q1, q2⟩
def spRW (K : PySem.W.Frag) : Sp := fun vs H Q E => ∃ (t : Addr) (ws : List Str), vs = [.ref t] ∧ WdAt K H t ws ∧ (LawAt ws (-1) → ∀ v H', Same H H' → Q v H') ∧ (∀ i : Nat, LawAt ws i → Bad K E H i)
theorem cut200 {ws : List Str} : cutV (ws.map V.str) none (some 200) = (ws.take 200).map V.str := by
  unfold cutV
  rw [show HT.sIx (ws.map V.str).length 0 none = 0 from rfl, show HT.sIx (ws.map V.str).length (ws.map V.str).length (some 200) = min 200 (ws.map V.str).length from HT.sIx_nat _ _ 200, List.drop_zero, Nat.sub_zero, List.map_take]
  by_cases c : 200 ≤ (ws.map V.str).length
  · rw [Nat.min_eq_left c]
  · rw [Nat.min_eq_right (by omega), List.take_of_length_le (Nat.le_refl _), List.take_of_length_le (by omega)]
theorem ok_read_words (T : Tx fxL fnL K mg) : FnR P w K mg base (L2.CX P w) 61 (ga K "read_words") (spRW K) := by
  refine fun_ok (F_read_words T) sc_read_words (fun _ _ _ _ _ _ us hl => match us, hl with | [_], _ => rfl) ?_ ?_
  · rintro vs H Q E ⟨t, ws, rfl, _⟩
    rfl
  · rintro cdv A outer s H vs Q E hr ⟨t, ws, rfl, hw, q1, q2⟩
    refine ⟨_, (pss_cons (ps_set (i := 1) sc_read_words.nd rfl (Or.inl rfl) (pe_slice o_sl (pv 0) po_none (po_some (pe_globE (by rfl) (cx_MOST_WORDS T)))))
 (pss_cons (ps_asg (pe_callF ((ok__read_value T).mono (by decide)) hr (takes_of rfl rfl rfl rfl) (by rfl) (gm__read_value T) (k__read_value T) (pa_cons (pv 1) (pa_cons pe_int (pa_cons pe_int pa_nil)))) (pg_tup rfl (pgs_cons (pg_name (i := 2) sc_read_words.nd rfl (Or.inl rfl)) (pgs_cons (pg_name (i := 3) sc_read_words.nd rfl (Or.inl rfl)) pgs_nil))))
 (pss_cons (ps_if (pt_cmpR (o_eq hr.units) (pe_callF ((ok__word T).mono (by decide)) hr (takes_of rfl rfl rfl rfl) (by rfl) (gm__word T) (k__word T) (pa_cons (pv 1) (pa_cons (pv 3) pa_nil))) pe_str (nomark _)) (pss_cons (ps_asg (pe_callF ((ok__read_value T).mono (by decide)) hr (takes_of rfl rfl rfl rfl) (by rfl) (gm__read_value T) (k__read_value T) (pa_cons (pv 1) (pa_cons (pe_op o_add (pv 3) pe_int) (pa_cons pe_int pa_nil)))) (pg_tup rfl (pgs_cons (pg_name (i := 4) sc_read_words.nd rfl (Or.inl rfl)) (pgs_cons (pg_name (i := 3) sc_read_words.nd rfl (Or.inl rfl)) pgs_nil))))
 (pss_one (ps_set (i := 2) sc_read_words.nd rfl (Or.inl rfl) (pe_makeF (mk_Comparison T) ((ok_Comparison___init__ T).mono (by decide)) hr (takes_of rfl rfl rfl rfl) (by rfl) (gm_Comparison T) (pa_cons (pv 2) (pa_cons (pv 4) pa_nil)))))) pss_nil)
 (pss_cons (ps_if (pt_cmpR o_lt (pv 3) (pe_callB b_len (by rfl) (z_len T) (by decide +kernel) (pa_cons (pv 0) pa_nil)) (nomark _)) (pss_one (ps_raise rfl (takes_of rfl rfl rfl rfl) (pmk_oexF (ex_BadQuestion T) (ii_BadQuestion T) (it_BadQuestion T) ((ok_BadQuestion___init__ T).mono (by decide)) hr (by rfl) (gm_BadQuestion T) (pa_cons (pv 3) pa_nil)))) pss_nil)
 (pss_one (ps_ret (pv 2))))))), ?_⟩
    refine g_start (σ := [some (.ref t), none, none, none, none]) rfl ?_
    refine g_seqK (fun σ' H' => Same H H' ∧ ∃ u : Addr, σ' = [some (.ref t), some (.ref u), none, none, none] ∧ WdAt K H' u (ws.take 200)) ?_ ?_
    · rintro σ' H1 ⟨s1, u, rfl, hu⟩
      have hl := take_len ws
      refine g_seq ?_
      walk_at "gw"
      refine ⟨u, ws.take 200, 0, 1, rfl, hu, Nat.zero_le _, fun j p v H2 r2 f2 s2 hp2 => ?_, fun i f => (q2 i (LawAt.fail f)).same s1⟩
      have s3 := s1.trans s2
      walk_at "gw"
      refine g_gtup (.inl (.inl hp2)) rfl ?_
      walk_at "gw"
      refine g_seqK (fun σ' H' => ∃ (j : Nat) (v : V) (o : Option V) (si : Int), σ' = [some (.ref t), some (.ref u), some v, some (.int (j : Int)), o] ∧ Same H H' ∧ RunA (ws.take 200) 0 initA j ⟨[], ["after"], si⟩ ∧ notop (wd (ws.take 200) j) ∧ (wd (ws.take 200) j ≠ ("<=" : Str) ∨ si ≠ 1)) ?_ ?_
      · rintro σ' H4 ⟨j4, v4, o4, si, rfl, s4, r4, f4, e4⟩
        have hT : SqT _ _ t (ws.map V.str) := (hw.same s4).1
        walk_at "gg"
        refine g_lenT hT ?_
        rw [hw.len]
        walk_at "gg"
        have st := LawAt.stop r4 f4 e4
        refine g_ite (fun c => ?_) (fun c => ?_)
        · rcases st with ⟨_, st⟩ | ⟨st, _⟩
          · walk_at "gg"
            exact g_badq ((q2 _ st).same s4)
          · exact absurd (by omega) st
        · rcases st with ⟨st, _⟩ | ⟨_, st⟩
          · exact absurd (by omega) c
          · walk_at "gg"
            exact q1 st _ _ s4
      · intro N hN
        walk_at "gg"
        refine ⟨u, ws.take 200, j, rfl, hu.same s2, ?_⟩
        walk_at "gg"
        refine g_ite (fun c => ?_) (fun c => ?_)
        · have k3 : j < (ws.take 200).length := wd_ne_lt (by rw [c]; decide +kernel)
          have t3 := r2.step k3 (st_le c)
          walk_at "gg"
          refine ⟨u, ws.take 200, j + 1, 2, rfl, hu.same s2, k3, fun j4 p4 v4 H4 r4 f4 s4 hp4 => ?_, fun i f => (q2 i (LawAt.fail (FailA.after t3 f))).same s3⟩
          walk_at "gg"
          refine g_gtup (.inl (.inl hp4)) rfl ?_
          walk_at "gg"
          refine g_made2 fun x H6 s7 hx6 => ?_
          walk_at "gg"
          exact hN _ _ ⟨j4, _, _, 2, rfl, (s3.trans s4).trans s7, t3.trans r4, f4, .inr (by decide)⟩
        · walk_at "gg"
          exact hN _ _ ⟨j, _, _, 1, rfl, s3, r2, f2, .inl c⟩
    · intro N hN
      have hb : ∀ k, (wd (ws.take 200) k).length ≤ sizeLine := fun k => by
        by_cases c : k < (ws.take 200).length
        · have e : wd (ws.take 200) k = wd ws k := by
            unfold wd
            rw [List.getD_eq_getElem?_getD, List.getD_eq_getElem?_getD, List.getElem?_take_of_lt]
            rw [take_len] at c
            omega
          rw [e]
          exact hw.2.2 k
        · rw [wd_ge c]
          exact Nat.zero_le _
      have hz : (ws.take 200).length ≤ sizeLine := by
        have := hw.2.1
        rw [take_len]
        omega
      walk_at "gg"
      refine .inr (.inl ⟨t, ws.map V.str, rfl, hw.1, fun h => ?_, fun h p hp => ?_⟩)
      · have e : ws.take 200 = ws := by
          rw [show HT.sIx (ws.map V.str).length (ws.map V.str).length (some 200) = min 200 (ws.map V.str).length from HT.sIx_nat _ _ 200, List.length_map] at h
          exact List.take_of_length_le (by omega)
        walk_at "gg"
        exact hN _ _ ⟨Same.refl H, t, rfl, by rw [e]; exact hw⟩
      · rw [cut200]
        walk_at "gg"
        exact hN _ _ ⟨same_new hp _, p, rfl, .inl (.inl upd_same), hz, hb⟩
/-! ### Question -/
def qF (t : Addr) (v : V) : List (Str × V) := putF "tree" v (putF "words" (.ref t) [])
def spQ (K : PySem.W.Frag) : Sp := fun vs H Q E => ∃ (p dx : Addr) (x : Str), vs = [.ref p, .str x] ∧ x.length + 2 ≤ sizeLine ∧ H p = some (.ins (ga K "Question") dx []) ∧
  (LawAt (Txt.split x " ") (-1) → ∀ H' t v, But p H H' → H' p = some (.ins (ga K "Question") dx (qF t v)) → H' t = some (.tup ((Txt.split x " ").map V.str)) → Q .non H') ∧
  (∀ i : Nat, LawAt (Txt.split x " ") i → ∀ d H', But p H H' → H d = none → H' d = some (.xd [("place", .int (i : Int))]) → E (.ref (ga K "BadQuestion")) (some d) H')
theorem ok_Question___init__ (T : Tx fxL fnL K mg) : FnR P w K mg base (L2.CX P w) 62 (ma K (ga K "Question") "__init__") (spQ K) := by
  refine fun_ok (F_Question___init__ T) sc_Question___init__ (fun _ _ _ _ _ _ us hl => match us, hl with | [_, _], _ => rfl) ?_ ?_
  · rintro vs H Q E ⟨p, dx, x, rfl, _⟩
    rfl
  · rintro cdv A outer s H vs Q E hr ⟨p, dx, x, rfl, hz, hp, q1, q2⟩
    refine ⟨_, (pss_cons (ps_fld (pv 0) (pe_callTy b_tuple (by rfl) (z_tuple T) (by decide +kernel) (pa_cons (pe_callF ((ok_words_of T).mono (by decide)) hr (takes_of rfl rfl rfl rfl) (by rfl) (gm_words_of T) (k_words_of T) (pa_cons (pv 1) pa_nil)) pa_nil)) rfl)
 (pss_one (ps_fld (pv 0) (pe_callF ((ok_read_words T).mono (by decide)) hr (takes_of rfl rfl rfl rfl) (by rfl) (gm_read_words T) (k_read_words T) (pa_cons (pe_fld (pv 0) rfl) pa_nil)) rfl))), ?_⟩
    refine g_start (σ := [some (.ref p), some (.str x)]) rfl ?_
    walk_at "gg"
    refine ⟨x, rfl, hz, fun l hl => ?_⟩
    have b1 : But p H (upd H l (.lst ((Txt.split x " ").map V.str))) := fun b o e _ => same_new hl _ b o e
    have np : p ≠ l := ne_of_none hp hl
    have hl1 : (upd H l (.lst ((Txt.split x " ").map V.str))) p = some (.ins (ga K "Question") dx []) := by rw [upd_ne np]; exact hp
    walk_at "gg"
    refine g_tupL (.inl (.inl upd_same)) fun t ht => ?_
    have nt : p ≠ t := ne_of_none hl1 ht
    walk_at "gg"
    refine g_put (by rw [upd_ne nt]; exact hl1) (cl_Question T) (na_Question_words T) ?_ ?_
    · show 0 < 1000
      decide
    walk_at "gg"
    refine g_get upd_same (cl_Question T) (na_Question_words T) rfl ?_
    walk_at "gg"
    have tp : t ≠ p := fun e => nt e.symm
    have hzl : (Txt.split x " ").length ≤ sizeLine := by
      have := split_len x
      omega
    have hwb : ∀ k, (wd (Txt.split x " ") k).length ≤ sizeLine := fun k => Nat.le_trans (wd_bound (fun y hy => split_word x hy) k) (by omega)
    refine ⟨t, Txt.split x " ", rfl, ⟨.inl (.inl (by rw [upd_ne tp]; exact upd_same)), hzl, hwb⟩, fun la v H' sm => ?_, fun i la d H' sm hd hx => q2 i la d H' (fun b o e ne => sm b o ?_) ?_ hx⟩
    · walk_at "gg"
      refine g_put (sm p _ upd_same) (cl_Question T) (na_Question_tree T) ?_ ?_
      · show 1 < 1000
        decide
      refine q1 la _ t v (fun b o e ne => ?_) upd_same ?_
      · rw [upd_ne ne]
        refine sm b o ?_
        rw [upd_ne ne]
        exact same_new ht _ b o (b1 b o e ne)
      · rw [upd_ne tp]
        refine sm t _ ?_
        rw [upd_ne tp]
        exact upd_same
    · rw [upd_ne ne]
      exact same_new ht _ b o (b1 b o e ne)
    · by_cases e : d = p
      · rw [e, upd_same] at hd
        cases hd
      · rw [upd_ne e] at hd
        exact (same_new hl _).free ((same_new ht _).free hd)
end
end My
namespace My
open PySem PySem.Spec PyProof.Rows L2 He He5 Go NumT RatA TL TxtA
local macro_rules | `(tactic| walk_at "gv") => `(tactic| first
  | with_reducible refine g_v0 ?_ | with_reducible refine g_v1 ?_ | with_reducible refine g_v2 ?_ | with_reducible refine g_v3 ?_ | with_reducible refine g_v4 ?_ | with_reducible refine g_v5 ?_
  | with_reducible refine g_v6 ?_ | with_reducible refine g_v7 ?_ | with_reducible refine g_v8 ?_ | with_reducible refine g_v9 ?_ | with_reducible refine g_v10 ?_ | with_reducible refine g_v11 ?_ | with_reducible refine g_v12 ?_)
local macro_rules | `(tactic| walk_at "gn") => `(tactic| first
  | with_reducible refine g_n0 ?_ | with_reducible refine g_n1 ?_ | with_reducible refine g_n2 ?_ | with_reducible refine g_n3 ?_ | with_reducible refine g_n4 ?_ | with_reducible refine g_n5 ?_
  | with_reducible refine g_n6 ?_ | with_reducible refine g_n7 ?_ | with_reducible refine g_n8 ?_ | with_reducible refine g_n9 ?_ | with_reducible refine g_n10 ?_ | with_reducible refine g_n11 ?_ | with_reducible refine g_n12 ?_)
local macro_rules | `(tactic| walk_at "gs") => `(tactic| first
  | with_reducible refine g_asg ?_ | with_reducible refine g_ret ?_ | with_reducible refine g_if ?_ | with_reducible refine g_drop ?_ | with_reducible refine g_next ?_
  | with_reducible refine g_retN ?_ | with_reducible refine g_brk ?_ | with_reducible refine g_cont ?_ | with_reducible refine g_forA ?_ | with_reducible refine g_sfld ?_)
local macro_rules | `(tactic| walk_at "ge") => `(tactic| first
  | with_reducible refine g_c ?_ | with_reducible refine g_op ?_ | with_reducible refine g_test ?_ | with_reducible refine g_bl ?_ | with_reducible refine g_tB ?_ | with_reducible refine g_not ?_
  | with_reducible refine g_and ?_ | with_reducible refine g_or ?_ | with_reducible refine g_notV ?_ | with_reducible refine g_andV ?_ | with_reducible refine g_orV ?_ | with_reducible refine g_ifE ?_
  | with_reducible refine g_un ?_ | with_reducible refine g_chain ?_ | with_reducible refine g_nil ?_ | with_reducible refine g_cons ?_ | with_reducible refine g_tup ?_ | with_reducible refine g_lst ?_
  | with_reducible refine g_cb ?_ | with_reducible refine g_call ?_ | with_reducible refine g_cmeth ?_ | with_reducible refine g_make ?_ | with_reducible refine g_noPart ?_ | with_reducible refine g_part ?_
  | with_reducible refine g_partI ?_ | with_reducible refine g_sl ?_ | with_reducible refine g_m1 ?_ | with_reducible refine g_m0 ?_ | with_reducible refine g_isS ?_ | with_reducible refine g_gsub ?_
  | with_reducible refine g_gcons ?_ | with_reducible refine g_gnil ?_ | with_reducible refine g_bm ?_ | with_reducible refine g_bm0 ?_ | with_reducible refine g_mk ?_ | with_reducible refine g_lc ?_ | with_reducible refine g_fld ?_ | with_reducible refine g_yes ?_)
local macro_rules | `(tactic| walk_at "go_") => `(tactic| first
  | with_reducible refine g_addI ?_ | with_reducible refine g_subI ?_ | with_reducible refine g_ltI ?_ | with_reducible refine g_leI ?_ | with_reducible refine g_gtI ?_ | with_reducible refine g_geI ?_
  | with_reducible refine g_eqI ?_ | with_reducible refine g_eqS ?_ | with_reducible refine g_neI ?_ | with_reducible refine g_neS ?_
  | with_reducible refine g_isNn ?_ | with_reducible refine g_isNi ?_ | with_reducible refine g_isNs ?_ | with_reducible refine g_isNr ?_
  | with_reducible refine g_notNn ?_ | with_reducible refine g_notNi ?_ | with_reducible refine g_notNs ?_ | with_reducible refine g_notNr ?_ | with_reducible refine g_neg ?_
  | with_reducible refine g_inS ?_ | with_reducible refine g_niS ?_ | with_reducible refine g_iteT ?_ | with_reducible refine g_iteF ?_ | with_reducible refine g_iteNT ?_ | with_reducible refine g_iteNF ?_
  | with_reducible refine g_intI ?_ | with_reducible refine g_intB ?_ | with_reducible refine g_gcd ?_ | with_reducible refine g_max2 ?_ | with_reducible refine g_min2 ?_ | with_reducible refine g_stw ?_ | with_reducible refine g_abs ?_
  | with_reducible refine g_iStr ?_ | with_reducible refine g_exS ?_ | with_reducible refine g_iList ?_ | with_reducible refine g_iTup ?_ | with_reducible refine g_iR1 ?_ | with_reducible refine g_iR2 ?_ | with_reducible refine g_exR1 (by omega) (by omega) ?_ | with_reducible refine g_exR2 (by omega) ?_)
local macro_rules | `(tactic| walk_at "go1") => `(tactic| first | walk_at "gs" | with_reducible refine g_seq ?_ | walk_at "gv" | walk_at "ge" | walk_at "gn" | walk_at "go_")
local macro_rules | `(tactic| walk_at "go") => `(tactic| repeat walk_at "go1")
local macro_rules | `(tactic| walk_at "gl") => `(tactic| first
  | with_reducible refine g_lenS (by assumption) ?_ | with_reducible refine g_lenL (by assumption) ?_ | with_reducible refine g_lenT (by assumption) ?_ | with_reducible refine g_exL (by assumption) ?_ | with_reducible refine g_exT (by assumption) ?_)
local macro_rules | `(tactic| walk_at "gw") => `(tactic| repeat (first | walk_at "gs" | walk_at "gv" | walk_at "ge" | walk_at "gn" | walk_at "go_" | walk_at "gl"))
local macro_rules | `(tactic| walk_at "go2") => `(tactic| first | walk_at "go1" | walk_at "gl")
local macro_rules | `(tactic| walk_at "gg") => `(tactic| repeat walk_at "go2")

section
variable {P : Program} {w : World} {K : PySem.W.Frag} {mg : Str → Option Value} {base : Heap}
/-! ### _law_common -/
def spGcd : Sp := fun vs H Q _ => ∃ a b : Nat, vs = [.int (a : Int), .int (b : Int)] ∧ b < 2 ^ 299 ∧ Q (.int ((Nat.gcd a b : Nat) : Int)) H
theorem eu_step {a b n : Nat} (h1 : b < a) (h2 : a * b * 2 ^ n < 2 ^ 598) (hb : 0 < b) : b * (a % b) * 2 ^ (n + 1) < 2 ^ 598 := by
  have l : a % b < b := Nat.mod_lt _ hb
  have m : 2 * (a % b) ≤ a := by
    have e := Nat.div_add_mod a b
    have q : 1 ≤ a / b := (Nat.one_le_div_iff hb).mpr (by omega)
    have : b * 1 ≤ b * (a / b) := Nat.mul_le_mul_left b q
    omega
  refine Nat.lt_of_le_of_lt ?_ h2
  calc b * (a % b) * 2 ^ (n + 1) = b * (2 * (a % b)) * 2 ^ n := by rw [Nat.pow_succ]; simp only [Nat.mul_assoc, Nat.mul_comm, Nat.mul_left_comm]
    _ ≤ b * a * 2 ^ n := Nat.mul_le_mul_right _ (Nat.mul_le_mul_left _ m)
    _ = a * b * 2 ^ n := by rw [Nat.mul_comm b a]
theorem eu_first {a b : Nat} (h : b < 2 ^ 299) (hb : 0 < b) : b * (a % b) * 2 ^ 0 < 2 ^ 598 := by
  have l : a % b < b := Nat.mod_lt _ hb
  rw [Nat.pow_zero, Nat.mul_one, show (2:Nat) ^ 598 = 2 ^ 299 * 2 ^ 299 by rw [← Nat.pow_add]]
  exact Nat.mul_lt_mul'' h (by omega)
theorem eu_end {a b : Nat} (h : b < a) (h2 : a * b * 2 ^ 599 < 2 ^ 598) : b = 0 := by
  rcases Nat.eq_zero_or_pos b with h0 | h0
  · exact h0
  · exfalso
    have : 1 ≤ a * b := Nat.mul_pos (by omega) h0
    have l : 1 * 2 ^ 599 ≤ a * b * 2 ^ 599 := Nat.mul_le_mul_right _ this
    have : (2:Nat) ^ 599 < 2 ^ 598 := by omega
    exact absurd this (by decide +kernel)
def euI (a b : Nat) (i one other : Nat) : Prop := Nat.gcd one other = Nat.gcd a b ∧ ((i = 0 ∧ other = b) ∨ (0 < i ∧ other < one ∧ one * other * 2 ^ (i - 1) < 2 ^ 598))
theorem eu_next {a b i x y : Nat} (hb : b < 2 ^ 299) (h : euI a b i x y) (hy : 0 < y) : euI a b (i + 1) y (x % y) := by
  obtain ⟨g, h⟩ := h
  refine ⟨by rw [← g, Nat.gcd_comm y, ← Nat.gcd_rec, Nat.gcd_comm], .inr ⟨Nat.succ_pos _, Nat.mod_lt _ hy, ?_⟩⟩
  rcases h with ⟨rfl, rfl⟩ | ⟨h1, h2, h3⟩
  · exact eu_first hb hy
  · obtain ⟨j, rfl⟩ : ∃ j, i = j + 1 := ⟨i - 1, by omega⟩
    exact eu_step h2 h3 hy
theorem ok__law_common (T : Tx fxL fnL K mg) : FnR P w K mg base (L2.CX P w) 1 (ga K "_law_common") spGcd := by
  refine fun_ok (F__law_common T) sc__law_common (fun _ _ _ _ _ _ us hl => match us, hl with | [_, _], _ => rfl) ?_ ?_
  · rintro vs H Q E ⟨a, b, rfl, _⟩
    rfl
  · rintro cdv A outer s H vs Q E hr ⟨a, b, rfl, hb, q⟩
    refine ⟨_, (pss_cons (ps_for (passes_of rfl) rfl (pi_range1 (by rfl) (z_range T) (pa_cons pe_int pa_nil)) (pg_name (i := 2) sc__law_common.nd rfl (Or.inl rfl)) (pss_cons (ps_if (pt_cmpR (o_eq hr.units) (pv 1) pe_int (nomark _)) (pss_one ps_break) pss_nil)
 (pss_cons (ps_set (i := 3) sc__law_common.nd rfl (Or.inl rfl) (pe_op o_mod (pe_callTy (c_int (nd_int T)) (by rfl) (z_int T) (by decide +kernel) (pa_cons (pv 0) pa_nil)) (pv 1)))
 (pss_cons (ps_set (i := 0) sc__law_common.nd rfl (Or.inl rfl) (pv 1))
 (pss_one (ps_set (i := 1) sc__law_common.nd rfl (Or.inl rfl) (pv 3)))))))
 (pss_one (ps_ret (pv 0)))), ?_⟩
    refine g_start (σ := [some (.int (a : Int)), some (.int (b : Int)), none, none]) rfl ?_
    refine g_seqK (fun σ' H' => H' = H ∧ ∃ o1 o2 o3 : Option V, σ' = [some (.int ((Nat.gcd a b : Nat) : Int)), o1, o2, o3]) ?_ ?_
    · rintro σ' H' ⟨rfl, o1, o2, o3, rfl⟩
      walk_at "gg"
      exact q
    · intro N hN
      walk_at "gg"
      refine l_range (fun i σ' H' => H' = H ∧ ∃ (x y : Nat) (o1 o2 : Option V), σ' = [some (.int (x : Int)), some (.int (y : Int)), o1, o2] ∧ euI a b i x y) ⟨rfl, a, b, _, _, rfl, rfl, .inl ⟨rfl, rfl⟩⟩ ?_ ?_
      · rintro i σ' H' hi ⟨rfl, x, y, o1, o2, rfl, e⟩
        walk_at "gg"
        refine g_ite (fun c => ?_) (fun c => ?_)
        · obtain rfl : y = 0 := by omega
          walk_at "gg"
          have g := e.1
          rw [Nat.gcd_zero_right] at g
          rw [g]
          exact hN _ _ ⟨rfl, _, _, _, rfl⟩
        · walk_at "gg"
          refine g_modI (by omega) ?_
          walk_at "gg"
          exact ⟨rfl, y, x % y, _, _, by rw [Int.natCast_emod], eu_next hb e (by omega)⟩
      · rintro σ' H' ⟨rfl, x, y, o1, o2, rfl, g, e⟩
        have y0 : y = 0 := by
          rcases e with ⟨z, _⟩ | ⟨_, h1, h2⟩
          · exact absurd z (by decide)
          · exact eu_end h1 h2
        subst y0
        rw [Nat.gcd_zero_right] at g
        rw [g]
        exact hN _ _ ⟨rfl, _, _, _, rfl⟩
end
end My
namespace My
open PySem PySem.Spec PyProof.Rows L2 He He5 Go NumT RatA TL TxtA
local macro_rules | `(tactic| walk_at "gv") => `(tactic| first
  | with_reducible refine g_v0 ?_ | with_reducible refine g_v1 ?_ | with_reducible refine g_v2 ?_ | with_reducible refine g_v3 ?_ | with_reducible refine g_v4 ?_ | with_reducible refine g_v5 ?_
  | with_reducible refine g_v6 ?_ | with_reducible refine g_v7 ?_ | with_reducible refine g_v8 ?_ | with_reducible refine g_v9 ?_ | with_reducible refine g_v10 ?_ | with_reducible refine g_v11 ?_ | with_reducible refine g_v12 ?_)
local macro_rules | `(tactic| walk_at "gn") => `(tactic| first
  | with_reducible refine g_n0 ?_ | with_reducible refine g_n1 ?_ | with_reducible refine g_n2 ?_ | with_reducible refine g_n3 ?_ | with_reducible refine g_n4 ?_ | with_reducible refine g_n5 ?_
  | with_reducible refine g_n6 ?_ | with_reducible refine g_n7 ?_ | with_reducible refine g_n8 ?_ | with_reducible refine g_n9 ?_ | with_reducible refine g_n10 ?_ | with_reducible refine g_n11 ?_ | with_reducible refine g_n12 ?_)
local macro_rules | `(tactic| walk_at "gs") => `(tactic| first
  | with_reducible refine g_asg ?_ | with_reducible refine g_ret ?_ | with_reducible refine g_if ?_ | with_reducible refine g_drop ?_ | with_reducible refine g_next ?_
  | with_reducible refine g_retN ?_ | with_reducible refine g_brk ?_ | with_reducible refine g_cont ?_ | with_reducible refine g_forA ?_ | with_reducible refine g_sfld ?_)
local macro_rules | `(tactic| walk_at "ge") => `(tactic| first
  | with_reducible refine g_c ?_ | with_reducible refine g_op ?_ | with_reducible refine g_test ?_ | with_reducible refine g_bl ?_ | with_reducible refine g_tB ?_ | with_reducible refine g_not ?_
  | with_reducible refine g_and ?_ | with_reducible refine g_or ?_ | with_reducible refine g_notV ?_ | with_reducible refine g_andV ?_ | with_reducible refine g_orV ?_ | with_reducible refine g_ifE ?_
  | with_reducible refine g_un ?_ | with_reducible refine g_chain ?_ | with_reducible refine g_nil ?_ | with_reducible refine g_cons ?_ | with_reducible refine g_tup ?_ | with_reducible refine g_lst ?_
  | with_reducible refine g_cb ?_ | with_reducible refine g_call ?_ | with_reducible refine g_cmeth ?_ | with_reducible refine g_make ?_ | with_reducible refine g_noPart ?_ | with_reducible refine g_part ?_
  | with_reducible refine g_partI ?_ | with_reducible refine g_sl ?_ | with_reducible refine g_m1 ?_ | with_reducible refine g_m0 ?_ | with_reducible refine g_isS ?_ | with_reducible refine g_gsub ?_
  | with_reducible refine g_gcons ?_ | with_reducible refine g_gnil ?_ | with_reducible refine g_bm ?_ | with_reducible refine g_bm0 ?_ | with_reducible refine g_mk ?_ | with_reducible refine g_lc ?_ | with_reducible refine g_fld ?_ | with_reducible refine g_yes ?_)
local macro_rules | `(tactic| walk_at "go_") => `(tactic| first
  | with_reducible refine g_addI ?_ | with_reducible refine g_subI ?_ | with_reducible refine g_ltI ?_ | with_reducible refine g_leI ?_ | with_reducible refine g_gtI ?_ | with_reducible refine g_geI ?_
  | with_reducible refine g_eqI ?_ | with_reducible refine g_eqS ?_ | with_reducible refine g_neI ?_ | with_reducible refine g_neS ?_
  | with_reducible refine g_isNn ?_ | with_reducible refine g_isNi ?_ | with_reducible refine g_isNs ?_ | with_reducible refine g_isNr ?_
  | with_reducible refine g_notNn ?_ | with_reducible refine g_notNi ?_ | with_reducible refine g_notNs ?_ | with_reducible refine g_notNr ?_ | with_reducible refine g_neg ?_
  | with_reducible refine g_inS ?_ | with_reducible refine g_niS ?_ | with_reducible refine g_iteT ?_ | with_reducible refine g_iteF ?_ | with_reducible refine g_iteNT ?_ | with_reducible refine g_iteNF ?_
  | with_reducible refine g_intI ?_ | with_reducible refine g_intB ?_ | with_reducible refine g_gcd ?_ | with_reducible refine g_max2 ?_ | with_reducible refine g_min2 ?_ | with_reducible refine g_stw ?_ | with_reducible refine g_abs ?_
  | with_reducible refine g_iStr ?_ | with_reducible refine g_exS ?_ | with_reducible refine g_iList ?_ | with_reducible refine g_iTup ?_ | with_reducible refine g_iR1 ?_ | with_reducible refine g_iR2 ?_ | with_reducible refine g_exR1 (by omega) (by omega) ?_ | with_reducible refine g_exR2 (by omega) ?_)
local macro_rules | `(tactic| walk_at "go1") => `(tactic| first | walk_at "gs" | with_reducible refine g_seq ?_ | walk_at "gv" | walk_at "ge" | walk_at "gn" | walk_at "go_")
local macro_rules | `(tactic| walk_at "go") => `(tactic| repeat walk_at "go1")
local macro_rules | `(tactic| walk_at "gl") => `(tactic| first
  | with_reducible refine g_lenS (by assumption) ?_ | with_reducible refine g_lenL (by assumption) ?_ | with_reducible refine g_lenT (by assumption) ?_ | with_reducible refine g_exL (by assumption) ?_ | with_reducible refine g_exT (by assumption) ?_)
local macro_rules | `(tactic| walk_at "gw") => `(tactic| repeat (first | walk_at "gs" | walk_at "gv" | walk_at "ge" | walk_at "gn" | walk_at "go_" | walk_at "gl"))
local macro_rules | `(tactic| walk_at "go2") => `(tactic| first | walk_at "go1" | walk_at "gl")
local macro_rules | `(tactic| walk_at "gg") => `(tactic| repeat walk_at "go2")

theorem o_inK {X : Cx} (K : PySem.W.Frag) (h : X.K = K := by rfl) : OpR X (compareOp .In) (rInA K) := h ▸ o_in
theorem o_niK {X : Cx} (K : PySem.W.Frag) (h : X.K = K := by rfl) : OpR X (compareOp .NotIn) (rNiA K) := h ▸ o_ni
theorem o_addK {X : Cx} (K : PySem.W.Frag) (h : X.K = K := by rfl) : OpR X (binaryOp .Add) (rAddA K) := h ▸ o_add
theorem o_eqK {X : Cx} (K : PySem.W.Frag) (hu : X.A.units + 64 < cLine) (h : X.K = K := by rfl) : OpR X (compareOp .Eq) (rEqA K) := h ▸ o_eq hu
theorem o_neK {X : Cx} (K : PySem.W.Frag) (hu : X.A.units + 64 < cLine) (h : X.K = K := by rfl) : OpR X (compareOp .NotEq) (rNeA K) := h ▸ o_ne hu
theorem ix_seqK {X : Cx} (K : PySem.W.Frag) (h : X.K = K := by rfl) : IxR X (rIx K) := h ▸ ix_seq
theorem g_all {K : PySem.W.Frag} {H : Hp} {p : Addr} {bs : List Bool} {Q : VK} (hl : SqL K H p (bs.map V.bl)) (h : Q (.bl (bs.all id)) H) : rAll K [.ref p] H Q := ⟨p, bs, rfl, hl, h⟩
theorem g_cell {g : TG} {v : V} {σ σ' : L2.St} {H : Hp} {k : L2.St → Hp → Prop} (e : σ' = σ) (h : g v σ H k) : g v σ' H k := by rw [e]; exact h
theorem digW_eq {l : List Nat} (hne : l ≠ []) : digW l = (l.all isD && (decide (l = [48]) || !decide (l.head? = some 48))) := by
  unfold digW
  have : l.isEmpty = false := by
    cases l with
    | nil => exact absurd rfl hne
    | cons _ _ => rfl
  rw [this]
  by_cases h1 : l = [48] <;> by_cases h2 : l.head? = some 48 <;> simp [h1, h2]
section
variable {P : Program} {w : World} {K : PySem.W.Frag} {mg : Str → Option Value} {base : Heap}
def isDg (x : Str) : Bool := digW (tl x)
def isWh (x : Str) : Bool := whW (tl x)
def shortS (x : Str) : Prop := x.length < sizeLine
/-- a promise of a truth value of a text; lists may be made -/
def spTxB (ok : Str → Bool) (small : Str → Prop) : Sp := fun vs H Q _ => ∃ x : Str, vs = [.str x] ∧ small x ∧ x.length ≤ sizeLine ∧ ∀ H', Same H H' → Q (.bl (ok x)) H'
theorem ok__law_is_digits (T : Tx fxL fnL K mg) : FnR P w K mg base (L2.CX P w) 1 (ga K "_law_is_digits") (spTxB isDg shortS) := by
  refine fun_ok (F__law_is_digits T) sc__law_is_digits (fun _ _ _ _ _ _ us hl => match us, hl with | [_], _ => rfl) ?_ ?_
  · rintro vs H Q E ⟨x, rfl, _⟩
    rfl
  · rintro cdv A outer s H vs Q E hr ⟨x, rfl, hs, hz, q⟩
    refine ⟨_, (pss_cons (ps_if (PW.pt (pw_or (pt_cmpR (o_eq hr.units) (pv 0) pe_str (nomark _)) (pw_or1 (pt_not (pt_val (pe_callB (cr_all rfl) (by rfl) (z_all T) (by decide +kernel) (pa_cons (pe_lc (own := [("sign", 1)]) (by rfl) sc__law_is_digits.nd (pi_str (pv 0)) (blkOk_by (N := ["text", "sign"]) (sc := defScope s__law_is_digits) (by decide +kernel)) (fun _ _ _ _ _ => (pg_name (i := 1) sc__law_is_digits.nd rfl (Or.inl rfl))) (fun _ _ _ _ _ => pts_nil) (fun _ _ _ _ _ => (pe_cmpR (o_inK K) (pv 1) pe_str (by rfl)))) pa_nil))))))) (pss_one (ps_ret pe_bl)) pss_nil)
 (pss_one (ps_ret (pe_or (pe_cmpR (o_eq hr.units) (pv 0) pe_str (nomark _)) (pe_one (pe_cmpR (o_ne hr.units) (pe_ix ix_seq (pv 0) pe_int (fun _ _ => rfl)) pe_str (nomark _))))))), ?_⟩
    refine g_start (σ := [some (.str x), none]) rfl ?_
    walk_at "gg"
    have e0 : tl ("0" : Str) = [48] := by decide +kernel
    refine g_ite (fun c => ?_) (fun c => ?_)
    · walk_at "gg"
      have := q H (Same.refl H)
      rw [c] at this
      exact this
    · have hne : tl x ≠ [] := fun e => c (ext_tl e)
      walk_at "gg"
      intro D hD
      refine c_str (fun i H' => Same H H' ∧ H' D = some (.lst ((((tl x).take i).map isD).map V.bl))) ⟨same_new hD _, upd_same⟩ ?_ ?_
      · rintro i c H' hc ⟨sm, hl⟩
        refine g_cell (σ := [some (.str x), none]) rfl ?_
        walk_at "gg"
        refine ⟨rfl, ?_⟩
        walk_at "gg"
        rw [show ("0123456789" : Str).cps.toList = digL from rfl, mem_dig]
        have hi : i < (tl x).length := (List.getElem?_eq_some_iff.mp hc).1
        refine ⟨_, hl, ?_, same_put sm hD, ?_⟩
        · rw [List.length_map, List.length_map, List.length_take, ← len_tl]
          unfold shortS at hs
          omega
        · rw [upd_same]
          have e : (tl x).take (i + 1) = (tl x).take i ++ [c] := by rw [List.take_succ, show (tl x)[i]? = some c from hc]; rfl
          rw [e, List.map_append, List.map_append]
          rfl
      · rintro H' ⟨sm, hl⟩
        rw [show x.cps.toList.length = (tl x).length from rfl, List.take_length] at hl
        walk_at "gg"
        refine g_all (.inl (.inl hl)) ?_
        have ea : ((tl x).map isD).all id = (tl x).all isD := by rw [List.all_map]; rfl
        rw [ea]
        have fin : Q (V.bl (digW (tl x))) H' := q H' sm
        rw [digW_eq hne] at fin
        obtain ⟨h0, hh⟩ : ∃ h0, (tl x).head? = some h0 := by
          cases e : tl x with
          | nil => exact absurd e hne
          | cons a r => exact ⟨a, rfl⟩
        walk_at "gg"
        refine g_iteNB (fun d => ?_) (fun d => ?_)
        · rw [d] at fin
          walk_at "gg"
          rw [str_eq_dec e0]
          refine g_ite (fun e => ?_) (fun e => ?_)
          · rw [decide_eq_true e] at fin
            exact fin
          · rw [decide_eq_false e] at fin
            walk_at "gg"
            refine g_ixS hz (head_at hh) ?_
            walk_at "gg"
            rw [sign_eq zero_str]
            have hcd : decide ((tl x).head? = some 48) = decide (h0 = 48) := decide_eq_decide.mpr ⟨fun e => by rw [hh] at e; exact Option.some.inj e, fun e => by rw [hh, e]⟩
            rw [hcd] at fin
            exact fin
        · rw [d] at fin
          walk_at "gg"
          exact fin
theorem str_empty {x : Str} (h : tl x = []) : x = ("" : Str) := ext_tl h
theorem tl_cut (l : List Nat) : tl (⟨l.toArray⟩ : Str) = l := rfl
theorem ok__law_is_whole (T : Tx fxL fnL K mg) : FnR P w K mg base (L2.CX P w) 2 (ga K "_law_is_whole") (spTxB isWh shortS) := by
  refine fun_ok (F__law_is_whole T) sc__law_is_whole (fun _ _ _ _ _ _ us hl => match us, hl with | [_], _ => rfl) ?_ ?_
  · rintro vs H Q E ⟨x, rfl, _⟩
    rfl
  · rintro cdv A outer s H vs Q E hr ⟨x, rfl, hs, hz, q⟩
    refine ⟨_, (pss_cons (ps_if (pt_cmpR (o_eq hr.units) (pe_slice o_sl (pv 0) po_none (po_some pe_int)) pe_str (nomark _)) (pss_one (ps_ret (pe_and (pe_cmpR (o_ne hr.units) (pv 0) pe_str (nomark _)) (pe_one (pe_callF ((ok__law_is_digits T).mono (by decide)) hr (takes_of rfl rfl rfl rfl) (by rfl) (gm__law_is_digits T) (k__law_is_digits T) (pa_cons (pe_slice o_sl (pv 0) (po_some pe_int) po_none) pa_nil)))))) pss_nil)
 (pss_one (ps_ret (pe_callF ((ok__law_is_digits T).mono (by decide)) hr (takes_of rfl rfl rfl rfl) (by rfl) (gm__law_is_digits T) (k__law_is_digits T) (pa_cons (pv 0) pa_nil))))), ?_⟩
    refine g_start (σ := [some (.str x)]) rfl ?_
    have e0 : tl ("-0" : Str) = [45, 48] := by decide +kernel
    have e1 : tl ("-" : Str) = [45] := by decide +kernel
    walk_at "gg"
    refine .inr (.inr ⟨x, rfl, hz, ?_⟩)
    rw [cut_head]
    walk_at "gg"
    rw [str_eq_dec e1, tl_cut]
    cases e : tl x with
    | nil =>
      refine g_iteM (by simp) ?_
      walk_at "gg"
      refine ⟨x, rfl, hs, hz, fun H' sm => ?_⟩
      have fin : Q (V.bl (whW (tl x))) H' := q H' sm
      show Q (V.bl (digW (tl x))) H'
      rw [e] at fin ⊢
      exact fin
    | cons c r =>
      refine g_ite (fun d => ?_) (fun d => ?_)
      · obtain rfl : c = 45 := by simpa using d
        have fin : ∀ H', Same H H' → Q (V.bl (r != [48] && digW r)) H' := fun H' sm => by
          have : Q (V.bl (whW (tl x))) H' := q H' sm
          rw [e] at this
          exact this
        walk_at "gg"
        rw [str_eq_dec e0, e]
        by_cases h0 : r = [48]
        · rw [h0, decide_eq_true rfl]
          have := fin H (Same.refl H)
          rw [h0] at this
          exact this
        · rw [decide_eq_false (by simpa using h0)]
          walk_at "gg"
          refine .inr (.inr ⟨x, rfl, hz, ?_⟩)
          have lx : x.length = r.length + 1 := by rw [len_tl, e]; rfl
          rw [cut_tail x (by omega), e]
          walk_at "gg"
          have ll : (⟨(List.drop 1 (45 :: r)).toArray⟩ : Str).length = r.length := by show (List.drop 1 (45 :: r)).toArray.size = _; simp
          refine ⟨_, rfl, by show _ < sizeLine; rw [ll]; unfold shortS at hs; omega, by rw [ll]; omega, fun H' sm => ?_⟩
          have := fin H' sm
          rw [bne_iff_ne.mpr h0] at this
          exact this
      · walk_at "gg"
        refine ⟨x, rfl, hs, hz, fun H' sm => ?_⟩
        have fin : Q (V.bl (whW (tl x))) H' := q H' sm
        have hw : whW (tl x) = digW (tl x) := by
          rw [e]
          unfold whW
          split
          · rename_i h
            injection h with h _
            subst h
            exact absurd (by simp) d
          · rfl
        rw [hw] at fin
        exact fin
theorem ok__law_is_label (T : Tx fxL fnL K mg) : FnR P w K mg base (L2.CX P w) 1 (ga K "_law_is_label") (spTxB isLab shortS) := by
  refine fun_ok (F__law_is_label T) sc__law_is_label (fun _ _ _ _ _ _ us hl => match us, hl with | [_], _ => rfl) ?_ ?_
  · rintro vs H Q E ⟨x, rfl, _⟩
    rfl
  · rintro cdv A outer s H vs Q E hr ⟨x, rfl, hs, hz, q⟩
    refine ⟨_, (pss_cons (ps_if (pt_not (pt_chain o_le o_le pe_int (pe_callB b_len (by rfl) (z_len T) (by decide +kernel) (pa_cons (pv 0) pa_nil)) pe_int)) (pss_one (ps_ret pe_bl)) pss_nil)
 (pss_one (ps_ret (pe_callB (cr_all rfl) (by rfl) (z_all T) (by decide +kernel) (pa_cons (pe_lc (own := [("sign", 1)]) (by rfl) sc__law_is_label.nd (pi_str (pv 0)) (blkOk_by (N := ["text", "sign"]) (sc := defScope s__law_is_label) (by decide +kernel)) (fun _ _ _ _ _ => (pg_name (i := 1) sc__law_is_label.nd rfl (Or.inl rfl))) (fun _ _ _ _ _ => pts_nil) (fun _ _ _ _ _ => (pe_cmpR (o_inK K) (pv 1) pe_str (by rfl)))) pa_nil))))), ?_⟩
    refine g_start (σ := [some (.str x), none]) rfl ?_
    walk_at "gg"
    refine g_ite (fun c1 => ?_) (fun c1 => ?_)
    · walk_at "gg"
      refine g_iteN (fun c2 => ?_) (fun c2 => ?_)
      · walk_at "gg"
        have := q H (Same.refl H)
        unfold isLab at this
        rw [decide_eq_false (p := x.length ≤ 8) (by omega), Bool.false_and, Bool.and_false] at this
        exact this
      · have eb : isLab x = x.cps.toList.all labC := by
          unfold isLab
          rw [decide_eq_true (p := x.length ≤ 8) (by omega), decide_eq_true (p := 1 ≤ x.length) (by omega)]
          simp
        walk_at "gg"
        intro D hD
        refine c_str (fun i H' => Same H H' ∧ H' D = some (.lst ((((tl x).take i).map labC).map V.bl))) ⟨same_new hD _, upd_same⟩ ?_ ?_
        · rintro i c H' hc ⟨sm, hl⟩
          refine g_cell (σ := [some (.str x), none]) rfl ?_
          walk_at "gg"
          refine ⟨rfl, ?_⟩
          walk_at "gg"
          have el : decide (c ∈ ("abcdefghijklmnopqrstuvwxyz0123456789" : Str).cps.toList) = labC c := by
            unfold labC
            rw [← Bool.decide_or]
            refine decide_eq_decide.mpr ?_
            rw [← List.mem_append]
            have : ("abcdefghijklmnopqrstuvwxyz0123456789" : Str).cps.toList = letL ++ digL := by decide +kernel
            rw [this]
          rw [el]
          have hi : i < (tl x).length := (List.getElem?_eq_some_iff.mp hc).1
          refine ⟨_, hl, ?_, same_put sm hD, ?_⟩
          · rw [List.length_map, List.length_map, List.length_take, ← len_tl]
            unfold shortS at hs
            omega
          · rw [upd_same]
            have e : (tl x).take (i + 1) = (tl x).take i ++ [c] := by rw [List.take_succ, show (tl x)[i]? = some c from hc]; rfl
            rw [e, List.map_append, List.map_append]
            rfl
        · rintro H' ⟨sm, hl⟩
          rw [show x.cps.toList.length = (tl x).length from rfl, List.take_length] at hl
          walk_at "gg"
          refine g_all (.inl (.inl hl)) ?_
          have ea : ((tl x).map labC).all id = (tl x).all labC := by rw [List.all_map]; rfl
          rw [ea]
          have := q H' sm
          rw [eb] at this
          exact this
    · walk_at "gg"
      have := q H (Same.refl H)
      unfold isLab at this
      rw [decide_eq_false (p := 1 ≤ x.length) (by omega), Bool.false_and] at this
      exact this
end
end My
namespace My
open PySem PySem.Spec PyProof.Rows L2 He He5 Go NumT RatA TL TxtA
local macro_rules | `(tactic| walk_at "gv") => `(tactic| first
  | with_reducible refine g_v0 ?_ | with_reducible refine g_v1 ?_ | with_reducible refine g_v2 ?_ | with_reducible refine g_v3 ?_ | with_reducible refine g_v4 ?_ | with_reducible refine g_v5 ?_
  | with_reducible refine g_v6 ?_ | with_reducible refine g_v7 ?_ | with_reducible refine g_v8 ?_ | with_reducible refine g_v9 ?_ | with_reducible refine g_v10 ?_ | with_reducible refine g_v11 ?_ | with_reducible refine g_v12 ?_)
local macro_rules | `(tactic| walk_at "gn") => `(tactic| first
  | with_reducible refine g_n0 ?_ | with_reducible refine g_n1 ?_ | with_reducible refine g_n2 ?_ | with_reducible refine g_n3 ?_ | with_reducible refine g_n4 ?_ | with_reducible refine g_n5 ?_
  | with_reducible refine g_n6 ?_ | with_reducible refine g_n7 ?_ | with_reducible refine g_n8 ?_ | with_reducible refine g_n9 ?_ | with_reducible refine g_n10 ?_ | with_reducible refine g_n11 ?_ | with_reducible refine g_n12 ?_)
local macro_rules | `(tactic| walk_at "gs") => `(tactic| first
  | with_reducible refine g_asg ?_ | with_reducible refine g_ret ?_ | with_reducible refine g_if ?_ | with_reducible refine g_drop ?_ | with_reducible refine g_next ?_
  | with_reducible refine g_retN ?_ | with_reducible refine g_brk ?_ | with_reducible refine g_cont ?_ | with_reducible refine g_forA ?_ | with_reducible refine g_sfld ?_)
local macro_rules | `(tactic| walk_at "ge") => `(tactic| first
  | with_reducible refine g_c ?_ | with_reducible refine g_op ?_ | with_reducible refine g_test ?_ | with_reducible refine g_bl ?_ | with_reducible refine g_tB ?_ | with_reducible refine g_not ?_
  | with_reducible refine g_and ?_ | with_reducible refine g_or ?_ | with_reducible refine g_notV ?_ | with_reducible refine g_andV ?_ | with_reducible refine g_orV ?_ | with_reducible refine g_ifE ?_
  | with_reducible refine g_un ?_ | with_reducible refine g_chain ?_ | with_reducible refine g_nil ?_ | with_reducible refine g_cons ?_ | with_reducible refine g_tup ?_ | with_reducible refine g_lst ?_
  | with_reducible refine g_cb ?_ | with_reducible refine g_call ?_ | with_reducible refine g_cmeth ?_ | with_reducible refine g_make ?_ | with_reducible refine g_noPart ?_ | with_reducible refine g_part ?_
  | with_reducible refine g_partI ?_ | with_reducible refine g_sl ?_ | with_reducible refine g_m1 ?_ | with_reducible refine g_m0 ?_ | with_reducible refine g_isS ?_ | with_reducible refine g_gsub ?_
  | with_reducible refine g_gcons ?_ | with_reducible refine g_gnil ?_ | with_reducible refine g_bm ?_ | with_reducible refine g_bm0 ?_ | with_reducible refine g_mk ?_ | with_reducible refine g_lc ?_ | with_reducible refine g_fld ?_ | with_reducible refine g_yes ?_)
local macro_rules | `(tactic| walk_at "go_") => `(tactic| first
  | with_reducible refine g_addI ?_ | with_reducible refine g_subI ?_ | with_reducible refine g_ltI ?_ | with_reducible refine g_leI ?_ | with_reducible refine g_gtI ?_ | with_reducible refine g_geI ?_
  | with_reducible refine g_eqI ?_ | with_reducible refine g_eqS ?_ | with_reducible refine g_neI ?_ | with_reducible refine g_neS ?_
  | with_reducible refine g_isNn ?_ | with_reducible refine g_isNi ?_ | with_reducible refine g_isNs ?_ | with_reducible refine g_isNr ?_
  | with_reducible refine g_notNn ?_ | with_reducible refine g_notNi ?_ | with_reducible refine g_notNs ?_ | with_reducible refine g_notNr ?_ | with_reducible refine g_neg ?_
  | with_reducible refine g_inS ?_ | with_reducible refine g_niS ?_ | with_reducible refine g_iteT ?_ | with_reducible refine g_iteF ?_ | with_reducible refine g_iteNT ?_ | with_reducible refine g_iteNF ?_
  | with_reducible refine g_intI ?_ | with_reducible refine g_intB ?_ | with_reducible refine g_gcd ?_ | with_reducible refine g_max2 ?_ | with_reducible refine g_min2 ?_ | with_reducible refine g_stw ?_ | with_reducible refine g_abs ?_
  | with_reducible refine g_iStr ?_ | with_reducible refine g_exS ?_ | with_reducible refine g_iList ?_ | with_reducible refine g_iTup ?_ | with_reducible refine g_iR1 ?_ | with_reducible refine g_iR2 ?_ | with_reducible refine g_exR1 (by omega) (by omega) ?_ | with_reducible refine g_exR2 (by omega) ?_)
local macro_rules | `(tactic| walk_at "go1") => `(tactic| first | walk_at "gs" | with_reducible refine g_seq ?_ | walk_at "gv" | walk_at "ge" | walk_at "gn" | walk_at "go_")
local macro_rules | `(tactic| walk_at "go") => `(tactic| repeat walk_at "go1")
local macro_rules | `(tactic| walk_at "gl") => `(tactic| first
  | with_reducible refine g_lenS (by assumption) ?_ | with_reducible refine g_lenL (by assumption) ?_ | with_reducible refine g_lenT (by assumption) ?_ | with_reducible refine g_exL (by assumption) ?_ | with_reducible refine g_exT (by assumption) ?_)
local macro_rules | `(tactic| walk_at "gw") => `(tactic| repeat (first | walk_at "gs" | walk_at "gv" | walk_at "ge" | walk_at "gn" | walk_at "go_" | walk_at "gl"))
local macro_rules | `(tactic| walk_at "go2") => `(tactic| first | walk_at "go1" | walk_at "gl")
local macro_rules | `(tactic| walk_at "gg") => `(tactic| repeat walk_at "go2")

/-! ### texts cut at a slash -/
theorem spl_par : ∀ (l acc : List Nat), spl [47] 0 acc l = (match par [47] acc l with | none => [acc ++ l] | some (a, b) => a :: spl [47] 0 [] b)
  | [], acc => by
    rw [spl_nil]
    show [acc] = [acc ++ []]
    rw [List.append_nil]
  | c :: r, acc => by
    cases hp : pre [47] (c :: r) with
    | true =>
      rw [spl_hit hp, par_hit hp]
      rfl
    | false =>
      rw [spl_miss hp, par_miss hp, spl_par r (acc ++ [c])]
      cases par [47] (acc ++ [c]) r with
      | none => show [_] = [_]; rw [List.append_assoc]; rfl
      | some p => rfl
theorem par_mem : ∀ (l acc : List Nat) (p : List Nat × List Nat), par [47] acc l = some p → 47 ∈ l
  | [], acc, p, h => by cases h
  | c :: r, acc, p, h => by
    cases hp : pre [47] (c :: r) with
    | true =>
      unfold pre at hp
      have : [c] = [47] := by simpa using hp
      injection this with e _
      rw [e]
      exact List.mem_cons_self
    | false =>
      rw [par_miss hp] at h
      exact List.mem_cons_of_mem _ (par_mem r _ p h)
theorem dig_par {l : List Nat} {p : List Nat × List Nat} (h : par [47] [] l = some p) : digW l = false := by
  cases e : digW l with
  | false => rfl
  | true =>
    have := List.all_eq_true.mp (digW_all e).1 47 (par_mem l [] p h)
    exact absurd this (by decide)
theorem spl_pos (l : List Nat) : ∃ q r, spl [47] 0 [] l = q :: r := by
  rw [spl_par]
  cases par [47] [] l with
  | none => exact ⟨_, _, rfl⟩
  | some p => exact ⟨_, _, rfl⟩
theorem split_slash (x : Str) : (Txt.split x ("/" : Str)).map tl = spl [47] 0 [] (tl x) := by
  rw [split_spl x _ (by rw [slash_tl]; simp) (kind_ok (by decide +kernel)), slash_tl]
theorem split_cases (x : Str) : (par [47] [] (tl x) = none ∧ Txt.split x ("/" : Str) = [x]) ∨ (∃ A B : Str, par [47] [] (tl x) = some (tl A, tl B) ∧ A.length + B.length ≤ x.length ∧ ((Txt.split x ("/" : Str) = [A, B]) ∨ (∃ C D r, Txt.split x ("/" : Str) = A :: C :: D :: r ∧ digW (tl B) = false))) := by
  have h := split_slash x
  rw [spl_par] at h
  cases e : par [47] [] (tl x) with
  | none =>
    rw [e] at h
    refine .inl ⟨rfl, map_tl_inj ?_⟩
    rw [h]
    rfl
  | some p =>
    obtain ⟨a, b⟩ := p
    rw [e] at h
    have hl := par_len _ _ _ _ _ e
    rw [List.length_nil, Nat.zero_add] at hl
    refine .inr ⟨⟨a.toArray⟩, ⟨b.toArray⟩, rfl, ?_, ?_⟩
    · rw [len_tl x]
      show a.toArray.size + b.toArray.size ≤ _
      rw [List.size_toArray, List.size_toArray]
      exact hl
    · cases e2 : par [47] [] b with
      | none =>
        refine .inl (map_tl_inj ?_)
        rw [h]
        show a :: spl [47] 0 [] b = [a, b]
        rw [spl_par, e2]
        rfl
      | some p2 =>
        obtain ⟨c, d⟩ := p2
        obtain ⟨q, r, e3⟩ := spl_pos d
        refine .inr ⟨⟨c.toArray⟩, ⟨q.toArray⟩, r.map (fun l => ⟨l.toArray⟩), map_tl_inj ?_, dig_par e2⟩
        rw [h]
        show a :: spl [47] 0 [] b = a :: c :: q :: (r.map (fun l => (⟨l.toArray⟩ : Str))).map tl
        rw [spl_par, e2]
        show a :: c :: spl [47] 0 [] d = _
        rw [e3, List.map_map]
        have : (r.map (tl ∘ fun l => (⟨l.toArray⟩ : Str))) = r := by
          rw [show (tl ∘ fun l => (⟨l.toArray⟩ : Str)) = id from rfl, List.map_id]
        rw [this]
def isR (x : Str) : Bool := okR (tl x)
def small64 (x : Str) : Prop := x.length ≤ 64
theorem okW_t {l : List Nat} (h : l.length ≤ 2000) : okW true l = whW l := by
  unfold okW
  rw [if_pos rfl, decide_eq_true (by split <;> omega), Bool.and_true]
theorem okW_f {l : List Nat} (h : l.length ≤ 2000) : okW false l = digW l := by
  unfold okW
  rw [if_neg Bool.false_ne_true, decide_eq_true h, Bool.and_true]
section
variable {P : Program} {w : World} {K : PySem.W.Frag} {mg : Str → Option Value} {base : Heap}
theorem sl64 {n : Nat} (h : n ≤ 64) : n + 3 ≤ sizeLine := by rw [sizeLine_eq]; omega
theorem ok__law_is_fraction (T : Tx fxL fnL K mg) : FnR P w K mg base (L2.CX P w) 3 (ga K "_law_is_fraction") (spTxB isR small64) := by
  refine fun_ok (F__law_is_fraction T) sc__law_is_fraction (fun _ _ _ _ _ _ us hl => match us, hl with | [_], _ => rfl) ?_ ?_
  · rintro vs H Q E ⟨x, rfl, _⟩
    rfl
  · rintro cdv A outer s H vs Q E hr ⟨x, rfl, hs, hz, q⟩
    refine ⟨_, (pss_cons (ps_set (i := 1) sc__law_is_fraction.nd rfl (Or.inl rfl) (pe_m1 PySem.F.slot_str_split PySem.F.type_str_split m_split (pv 0) pe_str))
 (pss_cons (ps_if (PW.pt (pw_or (pt_cmpR o_gt (pe_callB b_len (by rfl) (z_len T) (by decide +kernel) (pa_cons (pv 1) pa_nil)) pe_int (nomark _)) (pw_or1 (pt_not (pt_val (pe_callF ((ok__law_is_whole T).mono (by decide)) hr (takes_of rfl rfl rfl rfl) (by rfl) (gm__law_is_whole T) (k__law_is_whole T) (pa_cons (pe_ix ix_seq (pv 1) pe_int (fun _ _ => rfl)) pa_nil))))))) (pss_one (ps_ret pe_bl)) pss_nil)
 (pss_cons (ps_if (pt_cmpR (o_eq hr.units) (pe_callB b_len (by rfl) (z_len T) (by decide +kernel) (pa_cons (pv 1) pa_nil)) pe_int (nomark _)) (pss_one (ps_ret pe_bl)) pss_nil)
 (pss_cons (ps_if (pt_not (pt_val (pe_callF ((ok__law_is_digits T).mono (by decide)) hr (takes_of rfl rfl rfl rfl) (by rfl) (gm__law_is_digits T) (k__law_is_digits T) (pa_cons (pe_ix ix_seq (pv 1) pe_int (fun _ _ => rfl)) pa_nil)))) (pss_one (ps_ret pe_bl)) pss_nil)
 (pss_cons (ps_set (i := 2) sc__law_is_fraction.nd rfl (Or.inl rfl) (pe_callTy (c_int (nd_int T)) (by rfl) (z_int T) (by decide +kernel) (pa_cons (pe_ix ix_seq (pv 1) pe_int (fun _ _ => rfl)) pa_nil)))
 (pss_one (ps_ret (pe_and (pe_cmpR o_gt (pv 2) pe_int (nomark _)) (pe_one (pe_cmpR (o_eq hr.units) (pe_callF ((ok__law_common T).mono (by decide)) hr (takes_of rfl rfl rfl rfl) (by rfl) (gm__law_common T) (k__law_common T) (pa_cons (pe_callB b_abs (by rfl) (z_abs T) (by decide +kernel) (pa_cons (pe_callTy (c_int (nd_int T)) (by rfl) (z_int T) (by decide +kernel) (pa_cons (pe_ix ix_seq (pv 1) pe_int (fun _ _ => rfl)) pa_nil)) pa_nil)) (pa_cons (pv 2) pa_nil))) pe_int (nomark _))))))))))), ?_⟩
    refine g_start (σ := [some (.str x), none, none]) rfl ?_
    unfold small64 at hs
    have h64 := sl64 hs
    have hx : (tl x).length ≤ 2000 := by rw [← len_tl]; omega
    walk_at "gg"
    refine g_split (by decide +kernel) (by omega) fun l hl => ?_
    have s1 := same_new hl (.lst ((Txt.split x "/").map V.str))
    have fin : ∀ H', Same H H' → Q (.bl (okR (tl x))) H' := q
    rcases split_cases x with ⟨hp, e⟩ | ⟨A', B, hp, hlen, e⟩
    · rw [okR_none hx hp, okW_t hx] at fin
      rw [e] at s1 ⊢
      walk_at "gg"
      refine g_lenL (.inl (.inl upd_same)) ?_
      walk_at "gg"
      refine g_iteM (by show ¬ (2:Int) < 1; decide) ?_
      walk_at "gg"
      refine g_ixL (.inl (.inl upd_same)) (show atI [V.str x] 0 = some (.str x) from rfl) ?_
      walk_at "gg"
      refine ⟨x, rfl, by unfold shortS; omega, hz, fun H2 s2 => ?_⟩
      have s3 := s1.trans s2
      walk_at "gg"
      refine g_iteNB (fun c => ?_) (fun c => ?_)
      · walk_at "gg"
        refine g_lenL (.inl (.inl (s2 _ _ upd_same))) ?_
        walk_at "gg"
        refine g_iteP (by show (1:Int) = 1; rfl) ?_
        walk_at "gg"
        have := fin H2 s3
        rw [show whW (tl x) = true from c] at this
        exact this
      · walk_at "gg"
        have := fin H2 s3
        rw [show whW (tl x) = false from c] at this
        exact this
    · have la : (tl A').length ≤ 2000 := by rw [← len_tl]; omega
      have lb : (tl B).length ≤ 2000 := by rw [← len_tl]; omega
      rw [okR_some hx hp, okW_t la, okW_f lb] at fin
      rcases e with e | ⟨C, D, r, e, hb⟩
      · rw [e] at s1 ⊢
        walk_at "gg"
        refine g_lenL (.inl (.inl upd_same)) ?_
        walk_at "gg"
        refine g_iteM (by show ¬ (2:Int) < 2; decide) ?_
        walk_at "gg"
        refine g_ixL (.inl (.inl upd_same)) (show atI [V.str A', V.str B] 0 = some (.str A') from rfl) ?_
        walk_at "gg"
        refine ⟨A', rfl, by unfold shortS; omega, by omega, fun H2 s2 => ?_⟩
        have s3 := s1.trans s2
        have hl2 := s2 _ _ upd_same
        walk_at "gg"
        refine g_iteNB (fun c => ?_) (fun c => ?_)
        · rw [show whW (tl A') = true from c] at fin
          walk_at "gg"
          refine g_lenL (.inl (.inl hl2)) ?_
          walk_at "gg"
          refine g_iteM (by show ¬ (2:Int) = 1; decide) ?_
          walk_at "gg"
          refine g_ixL (.inl (.inl hl2)) (show atI [V.str A', V.str B] 1 = some (.str B) from rfl) ?_
          walk_at "gg"
          refine ⟨B, rfl, by unfold shortS; omega, by omega, fun H4 s4 => ?_⟩
          have s5 := s3.trans s4
          have hl4 := s4 _ _ hl2
          walk_at "gg"
          refine g_iteNB (fun d => ?_) (fun d => ?_)
          · have d' : digW (tl B) = true := d
            have wb : whW (tl B) = true := (okW_whole (sg := false) (by rw [okW_f lb]; exact d')).1
            rw [d'] at fin
            have vb : wval (tl B) = natOf (tl B) := by
              rcases whW_cases wb with h | ⟨r, e, _⟩
              · exact h.2
              · rw [e, digW_neg] at d'
                cases d'
            walk_at "gg"
            refine g_ixL (.inl (.inl hl4)) (show atI [V.str A', V.str B] 1 = some (.str B) from rfl) ?_
            walk_at "gg"
            obtain ⟨i1, i2⟩ := int_whole wb (by omega)
            refine g_intS i1 i2 (by omega) ?_
            walk_at "gg"
            have bb : natOf (tl B) < 2 ^ 299 := by
              have h1 := wval_lt wb
              rw [vb, Int.natAbs_natCast] at h1
              have h2 : 10 ^ (tl B).length ≤ 10 ^ 64 := Nat.pow_le_pow_right (by decide) (by rw [← len_tl]; omega)
              have h3 : 10 ^ 64 < 2 ^ 299 := by decide +kernel
              omega
            refine g_ite (fun e1 => ?_) (fun e1 => ?_)
            · rw [decide_eq_true (p := 2 ≤ wval (tl B)) (by omega)] at fin
              walk_at "gg"
              refine g_ixL (.inl (.inl hl4)) (show atI [V.str A', V.str B] 0 = some (.str A') from rfl) ?_
              walk_at "gg"
              obtain ⟨j1, j2⟩ := int_whole (show whW (tl A') = true from c) (by omega)
              refine g_intS j1 j2 (by omega) ?_
              walk_at "gg"
              refine ⟨(wval (tl A')).natAbs, natOf (tl B), ?_, bb, ?_⟩
              · rw [vb]
                have : (if wval (tl A') < 0 then -wval (tl A') else wval (tl A')) = ((wval (tl A')).natAbs : Int) := by split <;> omega
                rw [this]
              · walk_at "gg"
                have g0 : 0 < Nat.gcd (wval (tl A')).natAbs (natOf (tl B)) := Nat.gcd_pos_of_pos_right _ (by omega)
                have := fin H4 s5
                rw [vb, Int.natAbs_natCast, Bool.true_and, Bool.true_and, Bool.true_and, ← decide_not] at this
                rw [decide_eq_decide.mpr (show ((Nat.gcd (wval (tl A')).natAbs (natOf (tl B)) : Nat) : Int) = 1 ↔ ¬ 1 < Nat.gcd (wval (tl A')).natAbs (natOf (tl B)) by omega)]
                exact this
            · rw [decide_eq_false (p := 2 ≤ wval (tl B)) (by omega)] at fin
              walk_at "gg"
              exact fin H4 s5
          · walk_at "gg"
            rw [show digW (tl B) = false from d] at fin
            exact fin H4 s5
        · walk_at "gg"
          rw [show whW (tl A') = false from c] at fin
          exact fin H2 s3
      · rw [e] at s1 ⊢
        walk_at "gg"
        refine g_lenL (.inl (.inl upd_same)) ?_
        walk_at "gg"
        refine g_iteP (by rw [List.length_map]; simp only [List.length_cons]; omega) ?_
        walk_at "gg"
        have := fin _ s1
        rw [hb] at this
        simp only [Bool.false_and, Bool.and_false] at this
        exact this
end
end My
namespace My
open PySem PySem.Spec PyProof.Rows L2 He He5 Go NumT RatA TL TxtA
local macro_rules | `(tactic| walk_at "gv") => `(tactic| first
  | with_reducible refine g_v0 ?_ | with_reducible refine g_v1 ?_ | with_reducible refine g_v2 ?_ | with_reducible refine g_v3 ?_ | with_reducible refine g_v4 ?_ | with_reducible refine g_v5 ?_
  | with_reducible refine g_v6 ?_ | with_reducible refine g_v7 ?_ | with_reducible refine g_v8 ?_ | with_reducible refine g_v9 ?_ | with_reducible refine g_v10 ?_ | with_reducible refine g_v11 ?_ | with_reducible refine g_v12 ?_)
local macro_rules | `(tactic| walk_at "gn") => `(tactic| first
  | with_reducible refine g_n0 ?_ | with_reducible refine g_n1 ?_ | with_reducible refine g_n2 ?_ | with_reducible refine g_n3 ?_ | with_reducible refine g_n4 ?_ | with_reducible refine g_n5 ?_
  | with_reducible refine g_n6 ?_ | with_reducible refine g_n7 ?_ | with_reducible refine g_n8 ?_ | with_reducible refine g_n9 ?_ | with_reducible refine g_n10 ?_ | with_reducible refine g_n11 ?_ | with_reducible refine g_n12 ?_)
local macro_rules | `(tactic| walk_at "gs") => `(tactic| first
  | with_reducible refine g_asg ?_ | with_reducible refine g_ret ?_ | with_reducible refine g_if ?_ | with_reducible refine g_drop ?_ | with_reducible refine g_next ?_
  | with_reducible refine g_retN ?_ | with_reducible refine g_brk ?_ | with_reducible refine g_cont ?_ | with_reducible refine g_forA ?_ | with_reducible refine g_sfld ?_)
local macro_rules | `(tactic| walk_at "ge") => `(tactic| first
  | with_reducible refine g_c ?_ | with_reducible refine g_op ?_ | with_reducible refine g_test ?_ | with_reducible refine g_bl ?_ | with_reducible refine g_tB ?_ | with_reducible refine g_not ?_
  | with_reducible refine g_and ?_ | with_reducible refine g_or ?_ | with_reducible refine g_notV ?_ | with_reducible refine g_andV ?_ | with_reducible refine g_orV ?_ | with_reducible refine g_ifE ?_
  | with_reducible refine g_un ?_ | with_reducible refine g_chain ?_ | with_reducible refine g_nil ?_ | with_reducible refine g_cons ?_ | with_reducible refine g_tup ?_ | with_reducible refine g_lst ?_
  | with_reducible refine g_cb ?_ | with_reducible refine g_call ?_ | with_reducible refine g_cmeth ?_ | with_reducible refine g_make ?_ | with_reducible refine g_noPart ?_ | with_reducible refine g_part ?_
  | with_reducible refine g_partI ?_ | with_reducible refine g_sl ?_ | with_reducible refine g_m1 ?_ | with_reducible refine g_m0 ?_ | with_reducible refine g_isS ?_ | with_reducible refine g_gsub ?_
  | with_reducible refine g_gcons ?_ | with_reducible refine g_gnil ?_ | with_reducible refine g_bm ?_ | with_reducible refine g_bm0 ?_ | with_reducible refine g_mk ?_ | with_reducible refine g_lc ?_ | with_reducible refine g_fld ?_ | with_reducible refine g_yes ?_)
local macro_rules | `(tactic| walk_at "go_") => `(tactic| first
  | with_reducible refine g_addI ?_ | with_reducible refine g_subI ?_ | with_reducible refine g_ltI ?_ | with_reducible refine g_leI ?_ | with_reducible refine g_gtI ?_ | with_reducible refine g_geI ?_
  | with_reducible refine g_eqI ?_ | with_reducible refine g_eqS ?_ | with_reducible refine g_neI ?_ | with_reducible refine g_neS ?_
  | with_reducible refine g_isNn ?_ | with_reducible refine g_isNi ?_ | with_reducible refine g_isNs ?_ | with_reducible refine g_isNr ?_
  | with_reducible refine g_notNn ?_ | with_reducible refine g_notNi ?_ | with_reducible refine g_notNs ?_ | with_reducible refine g_notNr ?_ | with_reducible refine g_neg ?_
  | with_reducible refine g_inS ?_ | with_reducible refine g_niS ?_ | with_reducible refine g_iteT ?_ | with_reducible refine g_iteF ?_ | with_reducible refine g_iteNT ?_ | with_reducible refine g_iteNF ?_
  | with_reducible refine g_intI ?_ | with_reducible refine g_intB ?_ | with_reducible refine g_gcd ?_ | with_reducible refine g_max2 ?_ | with_reducible refine g_min2 ?_ | with_reducible refine g_stw ?_ | with_reducible refine g_abs ?_
  | with_reducible refine g_iStr ?_ | with_reducible refine g_exS ?_ | with_reducible refine g_iList ?_ | with_reducible refine g_iTup ?_ | with_reducible refine g_iR1 ?_ | with_reducible refine g_iR2 ?_ | with_reducible refine g_exR1 (by omega) (by omega) ?_ | with_reducible refine g_exR2 (by omega) ?_)
local macro_rules | `(tactic| walk_at "go1") => `(tactic| first | walk_at "gs" | with_reducible refine g_seq ?_ | walk_at "gv" | walk_at "ge" | walk_at "gn" | walk_at "go_")
local macro_rules | `(tactic| walk_at "go") => `(tactic| repeat walk_at "go1")
local macro_rules | `(tactic| walk_at "gl") => `(tactic| first
  | with_reducible refine g_lenS (by assumption) ?_ | with_reducible refine g_lenL (by assumption) ?_ | with_reducible refine g_lenT (by assumption) ?_ | with_reducible refine g_exL (by assumption) ?_ | with_reducible refine g_exT (by assumption) ?_)
local macro_rules | `(tactic| walk_at "gw") => `(tactic| repeat (first | walk_at "gs" | walk_at "gv" | walk_at "ge" | walk_at "gn" | walk_at "go_" | walk_at "gl"))
local macro_rules | `(tactic| walk_at "go2") => `(tactic| first | walk_at "go1" | walk_at "gl")
local macro_rules | `(tactic| walk_at "gg") => `(tactic| repeat walk_at "go2")

section
variable {P : Program} {w : World} {K : PySem.W.Frag} {mg : Str → Option Value} {base : Heap}
def spBeh : Sp := fun vs H Q _ => ∃ x : Str, vs = [.str x] ∧ ∀ l H', Same H H' → H l = none → H' l = some (.lst ((behind x).map V.str)) → Q (.ref l) H'
theorem le_size {xs : List V} (h : xs.length ≤ 64) : xs.length ≤ sizeLine := by rw [sizeLine_eq]; omega
theorem ok__law_behind (T : Tx fxL fnL K mg) : FnR P w K mg base (L2.CX P w) 1 (ga K "_law_behind") spBeh := by
  refine fun_ok (F__law_behind T) sc__law_behind (fun _ _ _ _ _ _ us hl => match us, hl with | [_], _ => rfl) ?_ ?_
  · rintro vs H Q E ⟨x, rfl, _⟩
    rfl
  · rintro cdv A outer s H vs Q E hr ⟨x, rfl, q⟩
    refine ⟨_, (pss_cons (ps_if (pt_cmpR o_in (pv 0) (pe_lst (pa_cons pe_str (pa_cons pe_str pa_nil))) (by rfl)) (pss_one (ps_ret (pe_lst (pa_cons pe_str pa_nil)))) pss_nil)
 (pss_cons (ps_if (pt_cmpR o_in (pv 0) (pe_lst (pa_cons pe_str (pa_cons pe_str pa_nil))) (by rfl)) (pss_one (ps_ret (pe_lst (pa_cons pe_str (pa_cons pe_str (pa_cons pe_str (pa_cons pe_str pa_nil))))))) pss_nil)
 (pss_cons (ps_if (pt_cmpR (o_eq hr.units) (pv 0) pe_str (nomark _)) (pss_one (ps_ret (pe_lst (pa_cons pe_str (pa_cons pe_str pa_nil))))) pss_nil)
 (pss_cons (ps_if (pt_cmpR (o_eq hr.units) (pv 0) pe_str (nomark _)) (pss_one (ps_ret (pe_lst (pa_cons pe_str (pa_cons pe_str (pa_cons pe_str pa_nil)))))) pss_nil)
 (pss_cons (ps_if (pt_cmpR (o_eq hr.units) (pv 0) pe_str (nomark _)) (pss_one (ps_ret (pe_lst (pa_cons pe_str (pa_cons pe_str (pa_cons pe_str (pa_cons pe_str (pa_cons pe_str pa_nil)))))))) pss_nil)
 (pss_cons (ps_if (pt_cmpR o_in (pv 0) (pe_lst (pa_cons pe_str (pa_cons pe_str (pa_cons pe_str pa_nil)))) (by rfl)) (pss_one (ps_ret (pe_lst (pa_cons pe_str pa_nil)))) pss_nil)
 (pss_one (ps_ret (pe_lst pa_nil))))))))), ?_⟩
    refine g_start (σ := [some (.str x)]) rfl ?_
    have fin : ∀ {H1 : Hp} {ys : List Str} {l : Addr}, Same H H1 → behind x = ys → H1 l = none → Q (.ref l) (upd H1 l (.lst (ys.map V.str))) :=
      fun s1 e hl => q _ _ (s1.trans (same_new hl _)) (s1.free hl) (by rw [e]; exact upd_same)
    walk_at "gg"
    refine ⟨le_size (by show 2 ≤ 64; decide), fun l1 h1 => ?_⟩
    have s1 := same_new h1 (.lst [V.str "least", V.str "greatest"])
    walk_at "gg"
    refine g_inL (.inl (.inl upd_same)) rfl rfl ?_
    rw [strs2, inV_strs]
    walk_at "gg"
    refine g_ite (fun c => ?_) (fun c1 => ?_)
    · walk_at "gg"
      exact ⟨le_size (by show 1 ≤ 64; decide), fun l hl => fin s1 (if_pos (mem2.mp c)) hl⟩
    · rw [mem2] at c1
      walk_at "gg"
      refine ⟨le_size (by show 2 ≤ 64; decide), fun l2 h2 => ?_⟩
      have s2 := s1.trans (same_new h2 (.lst [V.str "energy", V.str "power"]))
      walk_at "gg"
      refine g_inL (.inl (.inl upd_same)) rfl rfl ?_
      rw [strs2, inV_strs]
      walk_at "gg"
      refine g_ite (fun c => ?_) (fun c2 => ?_)
      · walk_at "gg"
        exact ⟨le_size (by show 4 ≤ 64; decide), fun l hl => fin (ys := ["label", "[", "number", "numbers"]) s2 (by unfold behind; rw [if_neg c1, if_pos (mem2.mp c)]) hl⟩
      · rw [mem2] at c2
        walk_at "gg"
        refine g_ite (fun c3 => ?_) (fun c3 => ?_)
        · walk_at "gg"
          exact ⟨le_size (by show 2 ≤ 64; decide), fun l hl => fin (ys := ["label", "label"]) s2 (by unfold behind; rw [if_neg c1, if_neg c2, if_pos c3]) hl⟩
        · walk_at "gg"
          refine g_ite (fun c4 => ?_) (fun c4 => ?_)
          · walk_at "gg"
            exact ⟨le_size (by show 3 ≤ 64; decide), fun l hl => fin (ys := ["label", "[", "labels"]) s2 (by unfold behind; rw [if_neg c1, if_neg c2, if_neg c3, if_pos c4]) hl⟩
          · walk_at "gg"
            refine g_ite (fun c5 => ?_) (fun c5 => ?_)
            · walk_at "gg"
              exact ⟨le_size (by show 5 ≤ 64; decide), fun l hl => fin (ys := ["label", "[", "label", "label", "]"]) s2 (by unfold behind; rw [if_neg c1, if_neg c2, if_neg c3, if_neg c4, if_pos c5]) hl⟩
            · walk_at "gg"
              refine ⟨le_size (by show 3 ≤ 64; decide), fun l3 h3 => ?_⟩
              have s3 := s2.trans (same_new h3 (.lst [V.str "forests", V.str "determinant", V.str "cost"]))
              walk_at "gg"
              refine g_inL (.inl (.inl upd_same)) rfl rfl ?_
              rw [strs3, inV_strs]
              walk_at "gg"
              have m3 : x ∈ (["forests", "determinant", "cost"] : List Str) ↔ x = ("forests" : Str) ∨ x = ("determinant" : Str) ∨ x = ("cost" : Str) := by simp
              refine g_ite (fun c6 => ?_) (fun c6 => ?_)
              · walk_at "gg"
                exact ⟨le_size (by show 1 ≤ 64; decide), fun l hl => fin (ys := ["label"]) s3 (by unfold behind; rw [if_neg c1, if_neg c2, if_neg c3, if_neg c4, if_neg c5, if_pos (m3.mp c6)]) hl⟩
              · walk_at "gg"
                exact ⟨nil_le, fun l hl => fin (ys := []) s3 (by unfold behind; rw [if_neg c1, if_neg c2, if_neg c3, if_neg c4, if_neg c5, if_neg (fun h => c6 (m3.mpr h))]) hl⟩
def spStands : Sp := fun vs H Q _ => ∃ x n : Str, vs = [.str x, .str n] ∧ x.length ≤ 64 ∧ ∀ H', Same H H' → Q (.bl (stands x n)) H'
theorem ok__law_stands (T : Tx fxL fnL K mg) : FnR P w K mg base (L2.CX P w) 3 (ga K "_law_stands") spStands := by
  refine fun_ok (F__law_stands T) sc__law_stands (fun _ _ _ _ _ _ us hl => match us, hl with | [_, _], _ => rfl) ?_ ?_
  · rintro vs H Q E ⟨x, n, rfl, _⟩
    rfl
  · rintro cdv A outer s H vs Q E hr ⟨x, n, rfl, hs, q⟩
    refine ⟨_, (pss_cons (ps_if (pt_cmpR (o_eq hr.units) (pv 1) pe_str (nomark _)) (pss_one (ps_ret (pe_cmpR (o_eq hr.units) (pv 0) pe_str (nomark _)))) pss_nil)
 (pss_cons (ps_if (pt_cmpR (o_eq hr.units) (pv 1) pe_str (nomark _)) (pss_one (ps_ret (pe_callF ((ok__law_is_label T).mono (by decide)) hr (takes_of rfl rfl rfl rfl) (by rfl) (gm__law_is_label T) (k__law_is_label T) (pa_cons (pv 0) pa_nil)))) pss_nil)
 (pss_cons (ps_if (pt_cmpR (o_eq hr.units) (pv 1) pe_str (nomark _)) (pss_one (ps_ret (pe_callF ((ok__law_is_whole T).mono (by decide)) hr (takes_of rfl rfl rfl rfl) (by rfl) (gm__law_is_whole T) (k__law_is_whole T) (pa_cons (pv 0) pa_nil)))) pss_nil)
 (pss_cons (ps_if (pt_cmpR (o_eq hr.units) (pv 1) pe_str (nomark _)) (pss_one (ps_ret (pe_or (pe_cmpR (o_eq hr.units) (pv 0) pe_str (nomark _)) (pe_one (pe_callF ((ok__law_is_whole T).mono (by decide)) hr (takes_of rfl rfl rfl rfl) (by rfl) (gm__law_is_whole T) (k__law_is_whole T) (pa_cons (pv 0) pa_nil)))))) pss_nil)
 (pss_cons (ps_if (pt_cmpR (o_eq hr.units) (pv 1) pe_str (nomark _)) (pss_one (ps_ret (pe_or (pe_cmpR (o_eq hr.units) (pv 0) pe_str (nomark _)) (pe_one (pe_callF ((ok__law_is_label T).mono (by decide)) hr (takes_of rfl rfl rfl rfl) (by rfl) (gm__law_is_label T) (k__law_is_label T) (pa_cons (pv 0) pa_nil)))))) pss_nil)
 (pss_one (ps_ret (pe_cmpR (o_eq hr.units) (pv 0) (pv 1) (nomark _))))))))), ?_⟩
    refine g_start (σ := [some (.str x), some (.str n)]) rfl ?_
    have h64 := sl64 hs
    have hx : (tl x).length ≤ 2000 := by rw [← len_tl]; omega
    have ow : okW true (tl x) = isWh x := okW_t hx
    have fin : ∀ b, stands x n = b → ∀ H', Same H H' → Q (.bl b) H' := fun b e H' sm => by rw [← e]; exact q H' sm
    have q0 := q H (Same.refl H)
    walk_at "gg"
    refine g_ite (fun c1 => ?_) (fun c1 => ?_)
    · walk_at "gg"
      exact fin _ (if_pos c1) H (Same.refl H)
    · walk_at "gg"
      refine g_ite (fun c2 => ?_) (fun c2 => ?_)
      · walk_at "gg"
        exact ⟨x, rfl, by unfold shortS; omega, by omega, fin _ (by unfold stands; rw [if_neg c1, if_pos c2])⟩
      · walk_at "gg"
        refine g_ite (fun c3 => ?_) (fun c3 => ?_)
        · walk_at "gg"
          exact ⟨x, rfl, by unfold shortS; omega, by omega, fin _ (by unfold stands; rw [if_neg c1, if_neg c2, if_pos c3, ow])⟩
        · walk_at "gg"
          refine g_ite (fun c4 => ?_) (fun c4 => ?_)
          · have e : stands x n = (decide (x = ("]" : Str)) || isWh x) := by unfold stands; rw [if_neg c1, if_neg c2, if_neg c3, if_pos c4, ow]
            walk_at "gg"
            by_cases d : x = ("]" : Str)
            · rw [decide_eq_true d] at e
              rw [decide_eq_true d]
              exact fin _ e H (Same.refl H)
            · rw [decide_eq_false d] at e ⊢
              walk_at "gg"
              exact ⟨x, rfl, by unfold shortS; omega, by omega, fin _ e⟩
          · walk_at "gg"
            refine g_ite (fun c5 => ?_) (fun c5 => ?_)
            · have e : stands x n = (decide (x = ("]" : Str)) || isLab x) := by unfold stands; rw [if_neg c1, if_neg c2, if_neg c3, if_neg c4, if_pos c5]
              walk_at "gg"
              by_cases d : x = ("]" : Str)
              · rw [decide_eq_true d] at e
                rw [decide_eq_true d]
                exact fin _ e H (Same.refl H)
              · rw [decide_eq_false d] at e ⊢
                walk_at "gg"
                exact ⟨x, rfl, by unfold shortS; omega, by omega, fin _ e⟩
            · walk_at "gg"
              exact fin _ (by unfold stands; rw [if_neg c1, if_neg c2, if_neg c3, if_neg c4, if_neg c5]) H (Same.refl H)
end
end My
namespace DeqA
open PySem PySem.Spec PyProof.Rows L2 Go PyProof
theorem eqvAll_strs : ∀ xs ys : List Str, PyData.eqvAll (xs.map PyData.str) (ys.map PyData.str) = decide (xs = ys)
  | [], [] => by simp [PyData.eqvAll]
  | [], _ :: _ => by simp [PyData.eqvAll]
  | _ :: _, [] => by simp [PyData.eqvAll]
  | x :: xs, y :: ys => by
    rw [List.map_cons, List.map_cons, PyData.eqvAll, PyData.eqv, eqvAll_strs xs ys, Bool.eq_iff_iff]
    simp
theorem eqvAll_ints : ∀ xs ys : List Int, PyData.eqvAll (xs.map PyData.int) (ys.map PyData.int) = decide (xs = ys)
  | [], [] => by simp [PyData.eqvAll]
  | [], _ :: _ => by simp [PyData.eqvAll]
  | _ :: _, [] => by simp [PyData.eqvAll]
  | x :: xs, y :: ys => by
    rw [List.map_cons, List.map_cons, PyData.eqvAll, PyData.eqv, eqvAll_ints xs ys, Bool.eq_iff_iff]
    simp
def asc (x : Str) : Bool := PyData.strOk x
theorem lay_strs : ∀ xs : List Str, (∀ x ∈ xs, asc x = true) → PyData.canLayAll0 (xs.map PyData.str) = true
  | [], _ => by simp [PyData.canLayAll0]
  | x :: xs, h => by
    rw [List.map_cons, PyData.canLayAll0, PyData.canLay0, lay_strs xs fun y hy => h y (List.mem_cons_of_mem _ hy)]
    have := h x List.mem_cons_self
    unfold asc at this
    rw [this]
    rfl
theorem lay_ints : ∀ xs : List Int, PyData.canLayAll0 (xs.map PyData.int) = true
  | [] => by simp [PyData.canLayAll0]
  | x :: xs => by
    rw [List.map_cons, PyData.canLayAll0, PyData.canLay0, lay_ints xs]
    rfl
theorem dep_strs : ∀ xs : List Str, PyData.depthAll (xs.map PyData.str) = 0
  | [] => by simp [PyData.depthAll]
  | x :: xs => by rw [List.map_cons, PyData.depthAll, dep_strs xs, PyData.depth]; rfl
theorem dep_ints : ∀ xs : List Int, PyData.depthAll (xs.map PyData.int) = 0
  | [] => by simp [PyData.depthAll]
  | x :: xs => by rw [List.map_cons, PyData.depthAll, dep_ints xs, PyData.depth]; rfl
theorem sh_strs {xs : List Str} (h : ∀ x ∈ xs, asc x = true) : SeqAt.shaped (.list (xs.map PyData.str)) = true := by
  unfold SeqAt.shaped
  rw [PyData.canLay0, lay_strs xs h, PyData.depth, dep_strs]
  rfl
theorem sh_ints (xs : List Int) : SeqAt.shaped (.list (xs.map PyData.int)) = true := by
  unfold SeqAt.shaped
  rw [PyData.canLay0, lay_ints xs, PyData.depth, dep_ints]
  rfl
theorem sh_strsT {xs : List Str} (h : ∀ x ∈ xs, asc x = true) : SeqAt.shaped (.tuple (xs.map PyData.str)) = true := by
  unfold SeqAt.shaped
  rw [PyData.canLay0, lay_strs xs h, PyData.depth, dep_strs]
  rfl
section
variable {K : PySem.W.Frag} {H : Hp} {p q : Addr} {Q : VK}
theorem dp_strs : ∀ xs : List Str, DpAll K H (xs.map V.str) (xs.map PyData.str)
  | [] => .nil
  | x :: xs => .cons (.str x) (dp_strs xs)
theorem dp_ints : ∀ xs : List Int, DpAll K H (xs.map V.int) (xs.map PyData.int)
  | [] => .nil
  | x :: xs => .cons (.int x) (dp_ints xs)
theorem g_eqLS {xs ys : List Str} (h1 : SqL K H p (xs.map V.str)) (h2 : SqL K H q (ys.map V.str)) (a1 : ∀ x ∈ xs, asc x = true) (a2 : ∀ x ∈ ys, asc x = true) (h : Q (.bl (decide (xs = ys))) H) : rEqA K (.ref p) (.ref q) H Q :=
  .inr ⟨_, _, .lst h1 (dp_strs xs), .lst h2 (dp_strs ys), sh_strs a1, sh_strs a2, by rw [PyData.eqv, eqvAll_strs]; exact h⟩
theorem g_neLS {xs ys : List Str} (h1 : SqL K H p (xs.map V.str)) (h2 : SqL K H q (ys.map V.str)) (a1 : ∀ x ∈ xs, asc x = true) (a2 : ∀ x ∈ ys, asc x = true) (h : Q (.bl (!decide (xs = ys))) H) : rNeA K (.ref p) (.ref q) H Q :=
  .inr ⟨_, _, .lst h1 (dp_strs xs), .lst h2 (dp_strs ys), sh_strs a1, sh_strs a2, by rw [PyData.eqv, eqvAll_strs]; exact h⟩
theorem g_eqLI {xs ys : List Int} (h1 : SqL K H p (xs.map V.int)) (h2 : SqL K H q (ys.map V.int)) (h : Q (.bl (decide (xs = ys))) H) : rEqA K (.ref p) (.ref q) H Q :=
  .inr ⟨_, _, .lst h1 (dp_ints xs), .lst h2 (dp_ints ys), sh_ints _, sh_ints _, by rw [PyData.eqv, eqvAll_ints]; exact h⟩
theorem g_neLI {xs ys : List Int} (h1 : SqL K H p (xs.map V.int)) (h2 : SqL K H q (ys.map V.int)) (h : Q (.bl (!decide (xs = ys))) H) : rNeA K (.ref p) (.ref q) H Q :=
  .inr ⟨_, _, .lst h1 (dp_ints xs), .lst h2 (dp_ints ys), sh_ints _, sh_ints _, by rw [PyData.eqv, eqvAll_ints]; exact h⟩
theorem g_eqTS {xs ys : List Str} (h1 : SqT K H p (xs.map V.str)) (h2 : SqT K H q (ys.map V.str)) (a1 : ∀ x ∈ xs, asc x = true) (a2 : ∀ x ∈ ys, asc x = true) (h : Q (.bl (decide (xs = ys))) H) : rEqA K (.ref p) (.ref q) H Q :=
  .inr ⟨_, _, .tup h1 (dp_strs xs), .tup h2 (dp_strs ys), sh_strsT a1, sh_strsT a2, by rw [PyData.eqv, eqvAll_strs]; exact h⟩
end
end DeqA
namespace My
open PySem PySem.Spec PyProof.Rows L2 He He5 Go NumT RatA TL TxtA DeqA
/-! ### the automaton's states that occur -/
structure WfA (a : StA) : Prop where
  last : a.due = [("part" : Str)] ∨ a.due.getLast? = some ("after" : Str)
  asc : ∀ x ∈ a.due, asc x = true
theorem behind_asc (x : Str) : ∀ y ∈ behind x, asc y = true := by
  unfold behind
  split
  · decide +kernel
  · split
    · decide +kernel
    · split
      · decide +kernel
      · split
        · decide +kernel
        · split
          · decide +kernel
          · split
            · decide +kernel
            · decide +kernel
theorem wf_part {S : List Int} {s : Int} : WfA ⟨S, [("part" : Str)], s⟩ := ⟨.inl rfl, by show ∀ x ∈ [("part" : Str)], _; decide +kernel⟩
theorem wf_after {S : List Int} {s : Int} : WfA ⟨S, [("after" : Str)], s⟩ := ⟨.inr rfl, by show ∀ x ∈ [("after" : Str)], _; decide +kernel⟩
theorem WfA.step {a b : StA} {x : Str} (h : WfA a) (e : stepA a x = some b) : WfA b := by
  obtain ⟨S, due, s⟩ := a
  have h1 := h.last
  have h2 := h.asc
  dsimp only at h1 h2
  unfold stepA at e
  dsimp only at e
  split at e
  · cases e
  · rename_i need rest
    split at e
    · split at e
      · cases e
        exact ⟨h1, h2⟩
      · split at e
        · cases e
          exact wf_after
        · split at e
          · cases e
            refine ⟨.inr (by simp), fun y hy => ?_⟩
            rcases List.mem_append.mp hy with hy | hy
            · exact behind_asc x y hy
            · rw [List.mem_singleton.mp hy]
              decide +kernel
          · cases e
    · rename_i n1
      split at e
      · split at e
        · cases e
          exact wf_part
        · split at e
          · cases e
            exact wf_part
          · split at e
            · cases e
              exact wf_part
            · split at e
              · cases e
                exact ⟨h1, h2⟩
              · cases e
      · rename_i n2
        split at e
        · cases e
        · split at e
          · cases e
            exact wf_part
          · split at e
            · cases e
              refine ⟨.inr ?_, fun y hy => h2 y (List.mem_cons_of_mem _ hy)⟩
              rcases h1 with h1 | h1
              · injection h1 with h1 _
                exact absurd h1 n1
              · cases rest with
                | nil =>
                  have : need = ("after" : Str) := by simpa using h1
                  exact absurd this n2
                | cons y r =>
                  simpa using h1
            · cases e
              exact ⟨h1, h2⟩
theorem WfA.run {ws : List Str} {k j : Nat} {a b : StA} (h : WfA a) (r : RunA ws k a j b) : WfA b := by
  induction r with
  | refl => exact h
  | step r hj hs ih => exact (ih h).step hs
theorem wf_init : WfA initA := wf_part
theorem WfA.cons {a : StA} (h : WfA a) : ∃ n r, a.due = n :: r := by
  cases e : a.due with
  | nil =>
    rcases h.last with q | q
    · rw [e] at q
      cases q
    · rw [e] at q
      cases q
  | cons n r => exact ⟨n, r, rfl⟩
/-! ### its steps, whatever is due behind -/
section
variable {S : List Int} {s : Int} {r : List Str} {x n : Str}
theorem sg_part : stepA ⟨S, ("part" : Str) :: r, s⟩ x = if x = ("(" : Str) ∧ S.length < 12 then some ⟨S ++ [1], ("part" : Str) :: r, s⟩ else if okR (tl x) = true then some ⟨S, [("after" : Str)], s⟩ else if behind x ≠ [] then some ⟨S, behind x ++ [("after" : Str)], s⟩ else none := by
  unfold stepA
  dsimp only
  rw [if_pos rfl]
theorem sg_after : stepA ⟨S, ("after" : Str) :: r, s⟩ x = if x = ("+" : Str) ∨ x = ("-" : Str) ∨ x = ("*" : Str) then some ⟨S, [("part" : Str)], s⟩
      else if x = ("<=" : Str) ∧ S = [] ∧ s = 1 then some ⟨S, [("part" : Str)], 2⟩
      else if x = ("," : Str) ∧ S.getLast? = some 2 then some ⟨S.dropLast ++ [1], [("part" : Str)], s⟩
      else if x = (")" : Str) ∧ S.getLast? = some 1 then some ⟨S.dropLast, ("after" : Str) :: r, s⟩
      else none := by
  unfold stepA
  dsimp only
  rw [if_neg (by decide +kernel), if_pos rfl]
theorem sg_other (h1 : n ≠ ("part" : Str)) (h2 : n ≠ ("after" : Str)) : stepA ⟨S, n :: r, s⟩ x = if stands x n = false ∨ (n = ("open" : Str) ∧ S.length = 12) then none
    else if n = ("open" : Str) then some ⟨S ++ [2], [("part" : Str)], s⟩
    else if (n ≠ ("numbers" : Str) ∧ n ≠ ("labels" : Str)) ∨ x = ("]" : Str) then some ⟨S, r, s⟩
    else some ⟨S, n :: r, s⟩ := by
  unfold stepA
  dsimp only
  rw [if_neg h1, if_neg h2]
end
/-! ### lists -/
theorem cut_last (S : List Int) : cutV (S.map V.int) (some (-1)) none = (S.drop (S.length - 1)).map V.int := by
  unfold cutV
  rw [List.length_map]
  have e1 : HT.sIx S.length 0 (some (-1)) = S.length - 1 := by
    show (if (-1:Int) < 0 then ((-1:Int) + (S.length:Int)).toNat else min (-1:Int).toNat S.length) = _
    rw [if_pos (by decide)]
    omega
  rw [e1, HT.sIx_none, List.map_drop]
  exact List.take_of_length_le (by rw [List.length_drop, List.length_map]; omega)
theorem cut_lastS (S : List Str) : cutV (S.map V.str) (some (-1)) none = (S.drop (S.length - 1)).map V.str := by
  unfold cutV
  rw [List.length_map]
  have e1 : HT.sIx S.length 0 (some (-1)) = S.length - 1 := by
    show (if (-1:Int) < 0 then ((-1:Int) + (S.length:Int)).toNat else min (-1:Int).toNat S.length) = _
    rw [if_pos (by decide)]
    omega
  rw [e1, HT.sIx_none, List.map_drop]
  exact List.take_of_length_le (by rw [List.length_drop, List.length_map]; omega)
theorem cut_one (S : List Str) : cutV (S.map V.str) (some 1) none = (S.drop 1).map V.str := by
  unfold cutV
  rw [List.length_map, show HT.sIx S.length 0 (some 1) = min 1 S.length from HT.sIx_nat _ _ 1, HT.sIx_none, List.map_drop]
  cases S with
  | nil => rfl
  | cons a S =>
    rw [show min 1 (a :: S).length = 1 by rw [List.length_cons]; omega]
    exact List.take_of_length_le (by rw [List.length_drop, List.length_map]; omega)
theorem last_iff {α : Type} [DecidableEq α] (S : List α) (c : α) : S.drop (S.length - 1) = [c] ↔ S.getLast? = some c := by
  rcases List.eq_nil_or_concat S with rfl | ⟨L, b, rfl⟩
  · simp
  · rw [List.concat_eq_append, List.length_append, List.length_singleton, Nat.add_sub_cancel, List.drop_left, List.getLast?_concat]
    simp
theorem last_split {α : Type} {S : List α} {c : α} (h : S.getLast? = some c) : S = S.dropLast ++ [c] := by
  rcases List.eq_nil_or_concat S with rfl | ⟨L, b, rfl⟩
  · cases h
  · rw [List.concat_eq_append] at h ⊢
    rw [List.getLast?_concat] at h
    rw [List.dropLast_concat, Option.some.inj h]
end My
namespace My
open PySem PySem.Spec PyProof.Rows L2 He He5 Go NumT RatA TL TxtA DeqA
local macro_rules | `(tactic| walk_at "gv") => `(tactic| first
  | with_reducible refine g_v0 ?_ | with_reducible refine g_v1 ?_ | with_reducible refine g_v2 ?_ | with_reducible refine g_v3 ?_ | with_reducible refine g_v4 ?_ | with_reducible refine g_v5 ?_
  | with_reducible refine g_v6 ?_ | with_reducible refine g_v7 ?_ | with_reducible refine g_v8 ?_ | with_reducible refine g_v9 ?_ | with_reducible refine g_v10 ?_ | with_reducible refine g_v11 ?_ | with_reducible refine g_v12 ?_)
local macro_rules | `(tactic| walk_at "gn") => `(tactic| first
  | with_reducible refine g_n0 ?_ | with_reducible refine g_n1 ?_ | with_reducible refine g_n2 ?_ | with_reducible refine g_n3 ?_ | with_reducible refine g_n4 ?_ | with_reducible refine g_n5 ?_
  | with_reducible refine g_n6 ?_ | with_reducible refine g_n7 ?_ | with_reducible refine g_n8 ?_ | with_reducible refine g_n9 ?_ | with_reducible refine g_n10 ?_ | with_reducible refine g_n11 ?_ | with_reducible refine g_n12 ?_)
local macro_rules | `(tactic| walk_at "gs") => `(tactic| first
  | with_reducible refine g_asg ?_ | with_reducible refine g_ret ?_ | with_reducible refine g_if ?_ | with_reducible refine g_drop ?_ | with_reducible refine g_next ?_
  | with_reducible refine g_retN ?_ | with_reducible refine g_brk ?_ | with_reducible refine g_cont ?_ | with_reducible refine g_forA ?_ | with_reducible refine g_sfld ?_)
local macro_rules | `(tactic| walk_at "ge") => `(tactic| first
  | with_reducible refine g_c ?_ | with_reducible refine g_op ?_ | with_reducible refine g_test ?_ | with_reducible refine g_bl ?_ | with_reducible refine g_tB ?_ | with_reducible refine g_not ?_
  | with_reducible refine g_and ?_ | with_reducible refine g_or ?_ | with_reducible refine g_notV ?_ | with_reducible refine g_andV ?_ | with_reducible refine g_orV ?_ | with_reducible refine g_ifE ?_
  | with_reducible refine g_un ?_ | with_reducible refine g_chain ?_ | with_reducible refine g_nil ?_ | with_reducible refine g_cons ?_ | with_reducible refine g_tup ?_ | with_reducible refine g_lst ?_
  | with_reducible refine g_cb ?_ | with_reducible refine g_call ?_ | with_reducible refine g_cmeth ?_ | with_reducible refine g_make ?_ | with_reducible refine g_noPart ?_ | with_reducible refine g_part ?_
  | with_reducible refine g_partI ?_ | with_reducible refine g_sl ?_ | with_reducible refine g_m1 ?_ | with_reducible refine g_m0 ?_ | with_reducible refine g_isS ?_ | with_reducible refine g_gsub ?_
  | with_reducible refine g_gcons ?_ | with_reducible refine g_gnil ?_ | with_reducible refine g_bm ?_ | with_reducible refine g_bm0 ?_ | with_reducible refine g_mk ?_ | with_reducible refine g_lc ?_ | with_reducible refine g_fld ?_ | with_reducible refine g_yes ?_)
local macro_rules | `(tactic| walk_at "go_") => `(tactic| first
  | with_reducible refine g_addI ?_ | with_reducible refine g_subI ?_ | with_reducible refine g_ltI ?_ | with_reducible refine g_leI ?_ | with_reducible refine g_gtI ?_ | with_reducible refine g_geI ?_
  | with_reducible refine g_eqI ?_ | with_reducible refine g_eqS ?_ | with_reducible refine g_neI ?_ | with_reducible refine g_neS ?_
  | with_reducible refine g_isNn ?_ | with_reducible refine g_isNi ?_ | with_reducible refine g_isNs ?_ | with_reducible refine g_isNr ?_
  | with_reducible refine g_notNn ?_ | with_reducible refine g_notNi ?_ | with_reducible refine g_notNs ?_ | with_reducible refine g_notNr ?_ | with_reducible refine g_neg ?_
  | with_reducible refine g_inS ?_ | with_reducible refine g_niS ?_ | with_reducible refine g_iteT ?_ | with_reducible refine g_iteF ?_ | with_reducible refine g_iteNT ?_ | with_reducible refine g_iteNF ?_
  | with_reducible refine g_intI ?_ | with_reducible refine g_intB ?_ | with_reducible refine g_gcd ?_ | with_reducible refine g_max2 ?_ | with_reducible refine g_min2 ?_ | with_reducible refine g_stw ?_ | with_reducible refine g_abs ?_
  | with_reducible refine g_iStr ?_ | with_reducible refine g_exS ?_ | with_reducible refine g_iList ?_ | with_reducible refine g_iTup ?_ | with_reducible refine g_iR1 ?_ | with_reducible refine g_iR2 ?_ | with_reducible refine g_exR1 (by omega) (by omega) ?_ | with_reducible refine g_exR2 (by omega) ?_)
local macro_rules | `(tactic| walk_at "go1") => `(tactic| first | walk_at "gs" | with_reducible refine g_seq ?_ | walk_at "gv" | walk_at "ge" | walk_at "gn" | walk_at "go_")
local macro_rules | `(tactic| walk_at "go") => `(tactic| repeat walk_at "go1")
local macro_rules | `(tactic| walk_at "gl") => `(tactic| first
  | with_reducible refine g_lenS (by assumption) ?_ | with_reducible refine g_lenL (by assumption) ?_ | with_reducible refine g_lenT (by assumption) ?_ | with_reducible refine g_exL (by assumption) ?_ | with_reducible refine g_exT (by assumption) ?_)
local macro_rules | `(tactic| walk_at "gw") => `(tactic| repeat (first | walk_at "gs" | walk_at "gv" | walk_at "ge" | walk_at "gn" | walk_at "go_" | walk_at "gl"))
local macro_rules | `(tactic| walk_at "go2") => `(tactic| first | walk_at "go1" | walk_at "gl")
local macro_rules | `(tactic| walk_at "gg") => `(tactic| repeat walk_at "go2")

section
variable {P : Program} {w : World} {K : PySem.W.Frag} {mg : Str → Option Value} {base : Heap}
def spWrong : Sp := fun vs H Q _ => ∃ (lw : Addr) (ws : List Str), vs = [.ref lw] ∧ H lw = some (.lst (ws.map V.str)) ∧ ws.length + 2 ≤ sizeLine ∧ (∀ y ∈ ws, y.length ≤ 64) ∧ ∀ r H', LawAt ws r → Same H H' → Q (.int r) H'
theorem wd_take {ws : List Str} {k : Nat} (h : k < (ws.take 200).length) : wd (ws.take 200) k = wd ws k := by
  unfold wd
  rw [List.getD_eq_getElem?_getD, List.getD_eq_getElem?_getD, List.getElem?_take_of_lt]
  rw [take_len] at h
  omega
theorem behind_len (x : Str) : (behind x).length ≤ 5 := by
  unfold behind
  repeat' split
  all_goals decide
theorem ok__law_wrong_at (T : Tx fxL fnL K mg) : FnR P w K mg base (L2.CX P w) 5 (ga K "_law_wrong_at") spWrong := by
  refine fun_ok (F__law_wrong_at T) sc__law_wrong_at (fun _ _ _ _ _ _ us hl => match us, hl with | [_], _ => rfl) ?_ ?_
  · rintro vs H Q E ⟨lw, ws, rfl, _⟩
    rfl
  · rintro cdv A outer s H vs Q E hr ⟨lw, ws, rfl, hlw, hz, h64, q⟩
    refine ⟨_, (pss_cons (ps_set (i := 1) sc__law_wrong_at.nd rfl (Or.inl rfl) (pe_lst pa_nil))
 (pss_cons (ps_set (i := 2) sc__law_wrong_at.nd rfl (Or.inl rfl) (pe_lst (pa_cons pe_str pa_nil)))
 (pss_cons (ps_set (i := 3) sc__law_wrong_at.nd rfl (Or.inl rfl) pe_int)
 (pss_cons (ps_for (passes_of rfl) rfl (pi_range1 (by rfl) (z_range T) (pa_cons (pe_callB (b_min2 rfl) (by rfl) (z_min T) (by decide +kernel) (pa_cons (pe_callB b_len (by rfl) (z_len T) (by decide +kernel) (pa_cons (pv 0) pa_nil)) (pa_cons pe_int pa_nil))) pa_nil)) (pg_name (i := 4) sc__law_wrong_at.nd rfl (Or.inl rfl)) (pss_cons (ps_set (i := 5) sc__law_wrong_at.nd rfl (Or.inl rfl) (pe_ix ix_seq (pv 0) (pv 4) (fun _ _ => rfl)))
 (pss_one (ps_if (pt_cmpR (o_eq hr.units) (pe_ix ix_seq (pv 2) pe_int (fun _ _ => rfl)) pe_str (nomark _)) (pss_one (ps_if (PW.pt (pw_and (pt_cmpR (o_eq hr.units) (pv 5) pe_str (nomark _)) (pw_and1 (pt_cmpR o_lt (pe_callB b_len (by rfl) (z_len T) (by decide +kernel) (pa_cons (pv 1) pa_nil)) pe_int (nomark _))))) (pss_one (ps_expr (pe_bm PySem.F.plainAttrs_list PySem.F.slot_list_append PySem.F.type_list_append mt_append (pv 1) (pa_cons pe_int pa_nil)))) (pss_one (ps_if (pt_val (pe_callF ((ok__law_is_fraction T).mono (by decide)) hr (takes_of rfl rfl rfl rfl) (by rfl) (gm__law_is_fraction T) (k__law_is_fraction T) (pa_cons (pv 5) pa_nil))) (pss_one (ps_set (i := 2) sc__law_wrong_at.nd rfl (Or.inl rfl) (pe_lst (pa_cons pe_str pa_nil)))) (pss_one (ps_if (pt_cmpR (o_ne hr.units) (pe_callF ((ok__law_behind T).mono (by decide)) hr (takes_of rfl rfl rfl rfl) (by rfl) (gm__law_behind T) (k__law_behind T) (pa_cons (pv 5) pa_nil)) (pe_lst pa_nil) (nomark _)) (pss_one (ps_set (i := 2) sc__law_wrong_at.nd rfl (Or.inl rfl) (pe_op o_add (pe_callF ((ok__law_behind T).mono (by decide)) hr (takes_of rfl rfl rfl rfl) (by rfl) (gm__law_behind T) (k__law_behind T) (pa_cons (pv 5) pa_nil)) (pe_lst (pa_cons pe_str pa_nil))))) (pss_one (ps_ret (pv 4))))))))) (pss_one (ps_if (pt_cmpR (o_eq hr.units) (pe_ix ix_seq (pv 2) pe_int (fun _ _ => rfl)) pe_str (nomark _)) (pss_one (ps_if (pt_cmpR o_in (pv 5) (pe_lst (pa_cons pe_str (pa_cons pe_str (pa_cons pe_str pa_nil)))) (by rfl)) (pss_one (ps_set (i := 2) sc__law_wrong_at.nd rfl (Or.inl rfl) (pe_lst (pa_cons pe_str pa_nil)))) (pss_one (ps_if (PW.pt (pw_and (pt_cmpR (o_eq hr.units) (pv 5) pe_str (nomark _)) (pw_and (pt_cmpR (o_eq hr.units) (pv 1) (pe_lst pa_nil) (nomark _)) (pw_and1 (pt_cmpR (o_eq hr.units) (pv 3) pe_int (nomark _)))))) (pss_cons (ps_set (i := 3) sc__law_wrong_at.nd rfl (Or.inl rfl) pe_int)
 (pss_one (ps_set (i := 2) sc__law_wrong_at.nd rfl (Or.inl rfl) (pe_lst (pa_cons pe_str pa_nil))))) (pss_one (ps_if (PW.pt (pw_and (pt_cmpR (o_eq hr.units) (pv 5) pe_str (nomark _)) (pw_and1 (pt_cmpR (o_eq hr.units) (pe_slice o_sl (pv 1) (po_some (pe_un un_neg pe_int)) po_none) (pe_lst (pa_cons pe_int pa_nil)) (nomark _))))) (pss_cons (ps_asg pe_int (pg_sub (pv 1) (pe_un un_neg pe_int) set_list))
 (pss_one (ps_set (i := 2) sc__law_wrong_at.nd rfl (Or.inl rfl) (pe_lst (pa_cons pe_str pa_nil))))) (pss_one (ps_if (PW.pt (pw_and (pt_cmpR (o_eq hr.units) (pv 5) pe_str (nomark _)) (pw_and1 (pt_cmpR (o_eq hr.units) (pe_slice o_sl (pv 1) (po_some (pe_un un_neg pe_int)) po_none) (pe_lst (pa_cons pe_int pa_nil)) (nomark _))))) (pss_one (ps_expr (pe_bm0 PySem.F.plainAttrs_list PySem.F.slot_list_pop PySem.F.type_list_pop mt_pop (pv 1)))) (pss_one (ps_ret (pv 4))))))))))) (pss_one (ps_if (PW.pt (pw_or (pt_not (pt_val (pe_callF ((ok__law_stands T).mono (by decide)) hr (takes_of rfl rfl rfl rfl) (by rfl) (gm__law_stands T) (k__law_stands T) (pa_cons (pv 5) (pa_cons (pe_ix ix_seq (pv 2) pe_int (fun _ _ => rfl)) pa_nil))))) (pw_or1 (PW.pt (pw_and (pt_cmpR (o_eq hr.units) (pe_ix ix_seq (pv 2) pe_int (fun _ _ => rfl)) pe_str (nomark _)) (pw_and1 (pt_cmpR (o_eq hr.units) (pe_callB b_len (by rfl) (z_len T) (by decide +kernel) (pa_cons (pv 1) pa_nil)) pe_int (nomark _)))))))) (pss_one (ps_ret (pv 4))) (pss_one (ps_if (pt_cmpR (o_eq hr.units) (pe_ix ix_seq (pv 2) pe_int (fun _ _ => rfl)) pe_str (nomark _)) (pss_cons (ps_expr (pe_bm PySem.F.plainAttrs_list PySem.F.slot_list_append PySem.F.type_list_append mt_append (pv 1) (pa_cons pe_int pa_nil)))
 (pss_one (ps_set (i := 2) sc__law_wrong_at.nd rfl (Or.inl rfl) (pe_lst (pa_cons pe_str pa_nil))))) (pss_one (ps_if (PW.pt (pw_or (pt_cmpR o_ni (pe_ix ix_seq (pv 2) pe_int (fun _ _ => rfl)) (pe_lst (pa_cons pe_str (pa_cons pe_str pa_nil))) (by rfl)) (pw_or1 (pt_cmpR (o_eq hr.units) (pv 5) pe_str (nomark _))))) (pss_one (ps_set (i := 2) sc__law_wrong_at.nd rfl (Or.inl rfl) (pe_slice o_sl (pv 2) (po_some pe_int) po_none))) pss_nil))))))))))))
 (pss_cons (ps_if (pt_cmpR o_gt (pe_callB b_len (by rfl) (z_len T) (by decide +kernel) (pa_cons (pv 0) pa_nil)) pe_int (nomark _)) (pss_one (ps_ret pe_int)) pss_nil)
 (pss_cons (ps_if (PW.pt (pw_or (pt_cmpR (o_ne hr.units) (pv 1) (pe_lst pa_nil) (nomark _)) (pw_or1 (pt_cmpR (o_ne hr.units) (pv 2) (pe_lst (pa_cons pe_str pa_nil)) (nomark _))))) (pss_one (ps_ret (pe_callB b_len (by rfl) (z_len T) (by decide +kernel) (pa_cons (pv 0) pa_nil)))) pss_nil)
 (pss_one (ps_ret (pe_un un_neg pe_int))))))))), ?_⟩
    refine g_start (σ := [some (.ref lw), none, none, none, none, none]) rfl ?_
    have hlen : (ws.map V.str).length = ws.length := List.length_map _
    have htk := take_len ws
    walk_at "gg"
    refine ⟨nil_le, fun ls hls => ?_⟩
    walk_at "gg"
    refine ⟨one_le, fun ld0 hld0 => ?_⟩
    have sa := same_new hls (.lst [])
    have nl0 : ls ≠ ld0 := ne_of_none upd_same hld0
    walk_at "gg"
    refine g_lenL (.inl (.inl ((same_new hld0 _) _ _ (sa _ _ hlw)))) ?_
    rw [hlen]
    walk_at "gg"
    have eT : (if (200 : Int) < (ws.length : Int) then (200 : Int) else (ws.length : Int)) = ((ws.take 200).length : Int) := by
      rw [htk]
      split <;> omega
    rw [eT]
    rw [Int.toNat_natCast]
    refine l_range (fun i σ' H' => ∃ (a : StA) (ld : Addr) (o1 o2 : Option V), σ' = [some (.ref lw), some (.ref ls), some (.ref ld), some (.int a.sides), o1, o2] ∧ i ≤ (ws.take 200).length ∧ RunA (ws.take 200) 0 initA i a ∧ Same H H' ∧ H' ls = some (.lst (a.stack.map V.int)) ∧ H' ld = some (.lst (a.due.map V.str)) ∧ a.stack.length ≤ i)
      ⟨initA, ld0, _, _, rfl, Nat.zero_le _, .refl 0 _, sa.trans (same_new hld0 _), by rw [upd_ne nl0]; exact upd_same, upd_same, Nat.le_refl _⟩ ?_ ?_
    · rintro i σ' H1 hi ⟨⟨S, due, si⟩, ld, o1, o2, rfl, hi', run, sm, hS, hD, hSl⟩
      have wf := wf_init.run run
      obtain ⟨n, r, hdue⟩ := wf.cons
      dsimp only at hdue hS hD hSl ⊢
      subst hdue
      have hlt : i < ws.length := by omega
      obtain ⟨x, hx⟩ : ∃ x, wd ws i = x := ⟨_, rfl⟩
      have hwd : wd (ws.take 200) i = x := by rw [wd_take hi, hx]
      have hw1 : SqL K H1 lw (ws.map V.str) := .inl (.inl (sm _ _ hlw))
      have hD1 : SqL K H1 ld ((n :: r).map V.str) := .inl (.inl hD)
      have hS1 : SqL K H1 ls (S.map V.int) := .inl (.inl hS)
      have x64 : x.length ≤ 64 := by rw [← hx]; exact wd_bound h64 i
      have x65 := sl64 x64
      have nd : ld ≠ ls := by
        rintro rfl
        rw [hS] at hD
        cases S <;> simp at hD
      have stepTo : ∀ b, stepA ⟨S, n :: r, si⟩ x = some b → RunA (ws.take 200) 0 initA (i + 1) b := fun b e => run.step hi (by rw [hwd]; exact e)
      have failAt : ∀ H', stepA ⟨S, n :: r, si⟩ x = none → Same H H' → Q (.int (i : Int)) H' := fun H' e s' => q _ _ (.inl ⟨i, _, run, hi, by rw [hwd]; exact e, rfl⟩) s'
      have hat : atI ((n :: r).map V.str) 0 = some (.str n) := atI_nat rfl
      have slS : S.length < sizeLine := by omega
      have slen : S.length ≤ i + 1 := by omega
      have hmS : (S.map V.int).length = S.length := List.length_map _
      rw [Int.zero_add]
      walk_at "gg"
      refine g_ixL hw1 (wd_at hlt) ?_
      rw [hx]
      walk_at "gg"
      refine g_ixL hD1 hat ?_
      walk_at "gg"
      refine g_ite (fun c => ?_) (fun c => ?_)
      · subst c
        walk_at "gg"
        refine g_ite (fun c1 => ?_) (fun c1 => ?_)
        · walk_at "gg"
          refine g_lenL hS1 ?_
          rw [hmS]
          walk_at "gg"
          refine g_ite (fun c2 => ?_) (fun c2 => ?_)
          · walk_at "gg"
            refine g_tyL hS1 ?_
            walk_at "gg"
            refine g_append hS (by rw [hmS]; exact slS) ?_
            walk_at "gg"
            exact ⟨⟨S ++ [1], _ :: r, si⟩, ld, _, _, rfl, hi, stepTo _ (by rw [sg_part, if_pos ⟨c1, by omega⟩]), same_put sm hls, by rw [upd_same, List.map_append]; rfl, by rw [upd_ne nd]; exact hD, by show (S ++ [1]).length ≤ i + 1; rw [List.length_append, List.length_singleton]; omega⟩
          · subst c1
            walk_at "gg"
            refine ⟨_, rfl, x64, by omega, fun H2 s2 => ?_⟩
            rw [show isR ("(" : Str) = false by decide +kernel]
            walk_at "gg"
            refine ⟨_, rfl, fun l3 H3 s3 hl3 hx3 => ?_⟩
            walk_at "gg"
            refine ⟨nil_le, fun l4 hl4 => ?_⟩
            walk_at "gg"
            refine g_neLS (xs := behind ("(" : Str)) (ys := []) (.inl (.inl (by rw [upd_ne (ne_of_none hx3 hl4)]; exact hx3))) (.inl (.inl upd_same)) (behind_asc _) (by simp) ?_
            rw [show behind ("(" : Str) = [] by decide +kernel]
            walk_at "gg"
            refine g_iteNP rfl ?_
            walk_at "gg"
            exact failAt _ (by rw [sg_part, if_neg (fun h => c2 (by omega)), if_neg (by decide +kernel), if_neg (by decide +kernel)]) (((sm.trans s2).trans s3).trans (same_new hl4 _))
        · walk_at "gg"
          refine ⟨_, rfl, x64, by omega, fun H2 s2 => ?_⟩
          have sm2 := sm.trans s2
          walk_at "gg"
          refine g_iteB (fun c2 => ?_) (fun c2 => ?_)
          · walk_at "gg"
            refine ⟨one_le, fun l hl => ?_⟩
            walk_at "gg"
            exact ⟨⟨S, ["after"], si⟩, l, _, _, rfl, hi, stepTo _ (by rw [sg_part, if_neg (fun h => c1 h.1), if_pos (show okR (tl x) = true from c2)]), sm2.trans (same_new hl _), by rw [upd_ne (ne_of_none (s2 _ _ hS) hl)]; exact s2 _ _ hS, upd_same, slen⟩
          · have c2' : ¬ okR (tl x) = true := by rw [show okR (tl x) = false from c2]; simp
            walk_at "gg"
            refine ⟨_, rfl, fun l3 H3 s3 hl3 hx3 => ?_⟩
            have sm3 := sm2.trans s3
            walk_at "gg"
            refine ⟨nil_le, fun l4 hl4 => ?_⟩
            have sm4 := sm3.trans (same_new hl4 (.lst []))
            walk_at "gg"
            refine g_neLS (xs := behind x) (ys := []) (.inl (.inl (by rw [upd_ne (ne_of_none hx3 hl4)]; exact hx3))) (.inl (.inl upd_same)) (behind_asc _) (by simp) ?_
            walk_at "gg"
            refine g_iteN (fun c3 => ?_) (fun c3 => ?_)
            · walk_at "gg"
              refine ⟨_, rfl, fun l5 H5 s5 hl5 hx5 => ?_⟩
              have sm5 := sm4.trans s5
              walk_at "gg"
              refine ⟨one_le, fun l6 hl6 => ?_⟩
              have sm6 := sm5.trans (same_new hl6 (.lst [V.str "after"]))
              walk_at "gg"
              refine g_addL (by rw [upd_ne (ne_of_none hx5 hl6)]; exact hx5) upd_same ?_ fun l7 hl7 => ?_
              · rw [List.length_map]
                have : (behind x).length ≤ 5 := behind_len x
                show _ + 1 ≤ _
                rw [sizeLine_eq]
                omega
              · have sS : (upd H5 l6 (.lst [V.str "after"])) ls = some (.lst (S.map V.int)) := by
                  refine same_new hl6 _ _ _ (s5 _ _ (same_new hl4 _ _ _ (s3 _ _ (s2 _ _ hS))))
                walk_at "gg"
                exact ⟨⟨S, behind x ++ [("after" : Str)], si⟩, l7, _, _, rfl, hi, stepTo _ (by rw [sg_part, if_neg (fun h => c1 h.1), if_neg c2', if_pos c3]), sm6.trans (same_new hl7 _), by rw [upd_ne (ne_of_none sS hl7)]; exact sS, by rw [upd_same, List.map_append]; rfl, slen⟩
            · walk_at "gg"
              exact failAt _ (by rw [sg_part, if_neg (fun h => c1 h.1), if_neg c2', if_neg (fun h => h c3)]) sm4
      · walk_at "gg"
        refine g_ixL hD1 hat ?_
        walk_at "gg"
        refine g_ite (fun d => ?_) (fun d => ?_)
        · subst d
          walk_at "gg"
          refine ⟨le_size (by show 3 ≤ 64; decide), fun l1 hl1 => ?_⟩
          have sm1 := sm.trans (same_new hl1 (.lst [V.str "+", V.str "-", V.str "*"]))
          have n1 : ls ≠ l1 := ne_of_none hS hl1
          have n2 : ld ≠ l1 := ne_of_none hD hl1
          walk_at "gg"
          refine g_inL (.inl (.inl upd_same)) rfl rfl ?_
          rw [strs3, inV_strs]
          have m3 : x ∈ (["+", "-", "*"] : List Str) ↔ x = ("+" : Str) ∨ x = ("-" : Str) ∨ x = ("*" : Str) := by simp
          walk_at "gg"
          refine g_ite (fun c1 => ?_) (fun c1 => ?_)
          · walk_at "gg"
            refine ⟨one_le, fun l hl => ?_⟩
            walk_at "gg"
            have sS : ls ≠ l := by
              refine ne_of_none (o := .lst (S.map V.int)) (H := upd H1 l1 _) ?_ hl
              rw [upd_ne n1]
              exact hS
            exact ⟨⟨S, ["part"], si⟩, l, _, _, rfl, hi, stepTo _ (by rw [sg_after, if_pos (m3.mp c1)]), sm1.trans (same_new hl _), by rw [upd_ne sS, upd_ne n1]; exact hS, upd_same, slen⟩
          · rw [m3] at c1
            generalize hH2 : upd H1 l1 (HO.lst (List.map V.str [Str.ofString "+", Str.ofString "-", Str.ofString "*"])) = H2
            have sm2 : Same H H2 := by rw [← hH2]; exact sm1
            have hS2 : H2 ls = some (.lst (S.map V.int)) := by rw [← hH2, upd_ne n1]; exact hS
            have hD2 : H2 ld = some (.lst ((("after" : Str) :: r).map V.str)) := by rw [← hH2, upd_ne n2]; exact hD
            have hSq : SqL K H2 ls (S.map V.int) := .inl (.inl hS2)
            clear hH2 sm1 n1 n2
            walk_at "gg"
            refine g_ite (fun c2 => ?_) (fun c2 => ?_)
            · subst c2
              have bad : ∀ H', Same H H' → ¬ (S = [] ∧ si = 1) → Q (.int (i : Int)) H' := fun H' s' h => failAt H' (by rw [sg_after, if_neg c1, if_neg (fun q => h q.2), if_neg (by rintro ⟨q, _⟩; revert q; decide +kernel), if_neg (by rintro ⟨q, _⟩; revert q; decide +kernel)]) s'
              walk_at "gg"
              refine ⟨nil_le, fun l2 hl2 => ?_⟩
              have sm3 := sm2.trans (same_new hl2 (.lst []))
              walk_at "gg"
              refine g_eqLI (xs := S) (ys := []) (.inl (.inl (by rw [upd_ne (ne_of_none hS2 hl2)]; exact hS2))) (.inl (.inl upd_same)) ?_
              walk_at "gg"
              refine g_ite (fun c3 => ?_) (fun c3 => ?_)
              · walk_at "gg"
                refine g_ite (fun c4 => ?_) (fun c4 => ?_)
                · walk_at "gg"
                  refine ⟨one_le, fun l hl => ?_⟩
                  walk_at "gg"
                  have hS3 : (upd H2 l2 (.lst [])) ls = some (.lst (S.map V.int)) := by rw [upd_ne (ne_of_none hS2 hl2)]; exact hS2
                  exact ⟨⟨S, ["part"], 2⟩, l, _, _, rfl, hi, stepTo _ (by rw [sg_after, if_neg c1, if_pos ⟨rfl, c3, c4⟩]), sm3.trans (same_new hl _), by rw [upd_ne (ne_of_none hS3 hl)]; exact hS3, upd_same, slen⟩
                · walk_at "gg"
                  refine g_iteM (by decide +kernel) ?_
                  walk_at "gg"
                  refine g_iteM (by decide +kernel) ?_
                  walk_at "gg"
                  exact bad _ sm3 fun h => c4 h.2
              · walk_at "gg"
                refine g_iteM (by decide +kernel) ?_
                walk_at "gg"
                refine g_iteM (by decide +kernel) ?_
                walk_at "gg"
                exact bad _ sm3 fun h => c3 h.1
            · walk_at "gg"
              refine g_ite (fun c3 => ?_) (fun c3 => ?_)
              · subst c3
                have bad : ∀ H', Same H H' → ¬ (S.getLast? = some 2) → Q (.int (i : Int)) H' := fun H' s' h => failAt H' (by rw [sg_after, if_neg c1, if_neg (fun q => c2 q.1), if_neg (fun q => h q.2), if_neg (by rintro ⟨q, _⟩; revert q; decide +kernel)]) s'
                walk_at "gg"
                refine .inl ⟨ls, _, rfl, hSq, fun l2 hl2 => ?_⟩
                rw [cut_last]
                have sm3 := sm2.trans (same_new hl2 (.lst ((S.drop (S.length - 1)).map V.int)))
                have hS3 : (upd H2 l2 (.lst ((S.drop (S.length - 1)).map V.int))) ls = some (.lst (S.map V.int)) := by rw [upd_ne (ne_of_none hS2 hl2)]; exact hS2
                walk_at "gg"
                refine ⟨one_le, fun l3 hl3 => ?_⟩
                have sm4 := sm3.trans (same_new hl3 (.lst [V.int 2]))
                have hS4 : (upd (upd H2 l2 (.lst ((S.drop (S.length - 1)).map V.int))) l3 (.lst [V.int 2])) ls = some (.lst (S.map V.int)) := by rw [upd_ne (ne_of_none hS3 hl3)]; exact hS3
                walk_at "gg"
                refine g_eqLI (xs := S.drop (S.length - 1)) (ys := [2]) (.inl (.inl (by rw [upd_ne (ne_of_none upd_same hl3)]; exact upd_same))) (.inl (.inl upd_same)) ?_
                rw [decide_eq_decide.mpr (last_iff S 2)]
                walk_at "gg"
                refine g_ite (fun c4 => ?_) (fun c4 => ?_)
                · have eS := last_split c4
                  walk_at "gg"
                  refine g_setL (j := S.dropLast.length) hS4 ?_ ?_
                  · rw [hmS, eS]
                    unfold ixN
                    rw [if_neg (by decide), List.length_append, List.length_singleton, if_pos (by omega)]
                    refine congrArg some ?_
                    rw [List.dropLast_concat]
                    omega
                  · have eSet : (S.map V.int).set S.dropLast.length (V.int 1) = (S.dropLast ++ [1]).map V.int := by
                      conv => lhs; rw [eS]
                      rw [List.map_append, List.map_append, List.dropLast_concat, List.set_append_right _ _ (by rw [List.length_map]; exact Nat.le_refl _), List.length_map, Nat.sub_self]
                      rfl
                    rw [eSet]
                    walk_at "gg"
                    refine ⟨one_le, fun l hl => ?_⟩
                    have nl : ls ≠ l := ne_of_none upd_same hl
                    walk_at "gg"
                    refine ⟨⟨S.dropLast ++ [1], ["part"], si⟩, l, _, _, rfl, hi, stepTo _ (by rw [sg_after, if_neg c1, if_neg (fun q => c2 q.1), if_pos ⟨rfl, c4⟩]), (same_put sm4 hls).trans (same_new hl _), by rw [upd_ne nl]; exact upd_same, upd_same, ?_⟩
                    show (S.dropLast ++ [1]).length ≤ i + 1
                    rw [List.length_append, List.length_dropLast, List.length_singleton]
                    omega
                · walk_at "gg"
                  refine g_iteM (by decide +kernel) ?_
                  walk_at "gg"
                  exact bad _ sm4 c4
              · walk_at "gg"
                refine g_ite (fun c4 => ?_) (fun c4 => ?_)
                · subst c4
                  have bad : ∀ H', Same H H' → ¬ (S.getLast? = some 1) → Q (.int (i : Int)) H' := fun H' s' h => failAt H' (by rw [sg_after, if_neg c1, if_neg (fun q => c2 q.1), if_neg (fun q => c3 q.1), if_neg (fun q => h q.2)]) s'
                  walk_at "gg"
                  refine .inl ⟨ls, _, rfl, hSq, fun l2 hl2 => ?_⟩
                  rw [cut_last]
                  have sm3 := sm2.trans (same_new hl2 (.lst ((S.drop (S.length - 1)).map V.int)))
                  have hS3 : (upd H2 l2 (.lst ((S.drop (S.length - 1)).map V.int))) ls = some (.lst (S.map V.int)) := by rw [upd_ne (ne_of_none hS2 hl2)]; exact hS2
                  have hD3 : (upd H2 l2 (.lst ((S.drop (S.length - 1)).map V.int))) ld = some (.lst ((("after" : Str) :: r).map V.str)) := by rw [upd_ne (ne_of_none hD2 hl2)]; exact hD2
                  walk_at "gg"
                  refine ⟨one_le, fun l3 hl3 => ?_⟩
                  have sm4 := sm3.trans (same_new hl3 (.lst [V.int 1]))
                  have hS4 : (upd (upd H2 l2 (.lst ((S.drop (S.length - 1)).map V.int))) l3 (.lst [V.int 1])) ls = some (.lst (S.map V.int)) := by rw [upd_ne (ne_of_none hS3 hl3)]; exact hS3
                  have hD4 : (upd (upd H2 l2 (.lst ((S.drop (S.length - 1)).map V.int))) l3 (.lst [V.int 1])) ld = some (.lst ((("after" : Str) :: r).map V.str)) := by rw [upd_ne (ne_of_none hD3 hl3)]; exact hD3
                  walk_at "gg"
                  refine g_eqLI (xs := S.drop (S.length - 1)) (ys := [1]) (.inl (.inl (by rw [upd_ne (ne_of_none upd_same hl3)]; exact upd_same))) (.inl (.inl upd_same)) ?_
                  rw [decide_eq_decide.mpr (last_iff S 1)]
                  walk_at "gg"
                  refine g_ite (fun c5 => ?_) (fun c5 => ?_)
                  · have eS := last_split c5
                    walk_at "gg"
                    refine g_tyL (.inl (.inl hS4)) ?_
                    refine ⟨ls, _, V.int 1, rfl, rfl, hS4, ?_, ?_⟩
                    · rw [List.getElem?_map, hmS]
                      rw [← List.getLast?_eq_getElem?, c5]
                      rfl
                    · rw [← List.map_dropLast]
                      walk_at "gg"
                      refine ⟨⟨S.dropLast, _ :: r, si⟩, ld, _, _, rfl, hi, stepTo _ (by rw [sg_after, if_neg c1, if_neg (fun q => c2 q.1), if_neg (fun q => c3 q.1), if_pos ⟨rfl, c5⟩]), same_put sm4 hls, upd_same, by rw [upd_ne nd]; exact hD4, ?_⟩
                      show S.dropLast.length ≤ i + 1
                      rw [List.length_dropLast]
                      omega
                  · walk_at "gg"
                    exact bad _ sm4 c5
                · walk_at "gg"
                  exact failAt _ (by rw [sg_after, if_neg c1, if_neg (fun q => c2 q.1), if_neg (fun q => c3 q.1), if_neg (fun q => c4 q.1)]) sm2
        · walk_at "gg"
          refine g_ixL hD1 hat ?_
          walk_at "gg"
          refine ⟨x, n, rfl, x64, fun H2 s2 => ?_⟩
          have sm2 := sm.trans s2
          have hS2 := s2 _ _ hS
          have hD2 := s2 _ _ hD
          have hD3 : SqL K H2 ld ((n :: r).map V.str) := .inl (.inl hD2)
          have hS3 : SqL K H2 ls (S.map V.int) := .inl (.inl hS2)
          walk_at "gg"
          refine g_iteNB (fun c1 => ?_) (fun c1 => ?_)
          · have c1' : ¬ stands x n = false := by rw [c1]; simp
            walk_at "gg"
            refine g_ixL hD3 hat ?_
            walk_at "gg"
            refine g_ite (fun c2 => ?_) (fun c2 => ?_)
            · subst c2
              walk_at "gg"
              refine g_lenL hS3 ?_
              rw [hmS]
              walk_at "gg"
              refine g_ite (fun c3 => ?_) (fun c3 => ?_)
              · walk_at "gg"
                exact failAt _ (by rw [sg_other c d, if_pos (.inr ⟨rfl, by omega⟩)]) sm2
              · walk_at "gg"
                refine g_ixL hD3 hat ?_
                walk_at "gg"
                refine g_iteP rfl ?_
                walk_at "gg"
                refine g_tyL hS3 ?_
                walk_at "gg"
                refine g_append hS2 (by rw [hmS]; exact slS) ?_
                walk_at "gg"
                refine ⟨one_le, fun l hl => ?_⟩
                have nl : ls ≠ l := ne_of_none upd_same hl
                walk_at "gg"
                refine ⟨⟨S ++ [2], ["part"], si⟩, l, _, _, rfl, hi, stepTo _ (by rw [sg_other c d, if_neg (by rintro (h | ⟨_, h⟩); exact c1' h; omega), if_pos rfl]), (same_put sm2 hls).trans (same_new hl _), by rw [upd_ne nl, upd_same, List.map_append]; rfl, upd_same, ?_⟩
                show (S ++ [2]).length ≤ i + 1
                rw [List.length_append, List.length_singleton]
                omega
            · have e1 : stepA ⟨S, n :: r, si⟩ x = if (n ≠ ("numbers" : Str) ∧ n ≠ ("labels" : Str)) ∨ x = ("]" : Str) then some ⟨S, r, si⟩ else some ⟨S, n :: r, si⟩ := by
                rw [sg_other c d, if_neg (by rintro (h | ⟨h, _⟩); exact c1' h; exact c2 h), if_neg c2]
              walk_at "gg"
              refine g_ixL hD3 hat ?_
              walk_at "gg"
              refine g_iteM c2 ?_
              walk_at "gg"
              refine g_ixL hD3 hat ?_
              walk_at "gg"
              refine ⟨le_size (by show 2 ≤ 64; decide), fun l1 hl1 => ?_⟩
              have sm3 := sm2.trans (same_new hl1 (.lst [V.str "numbers", V.str "labels"]))
              have hS4 : (upd H2 l1 (.lst [V.str "numbers", V.str "labels"])) ls = some (.lst (S.map V.int)) := by rw [upd_ne (ne_of_none hS2 hl1)]; exact hS2
              have hD4 : (upd H2 l1 (.lst [V.str "numbers", V.str "labels"])) ld = some (.lst ((n :: r).map V.str)) := by rw [upd_ne (ne_of_none hD2 hl1)]; exact hD2
              walk_at "gg"
              refine g_niL (.inl (.inl upd_same)) rfl rfl ?_
              rw [strs2, inV_strs]
              walk_at "gg"
              refine g_iteN (fun c3 => ?_) (fun c3 => ?_)
              · walk_at "gg"
                refine .inl ⟨ld, _, rfl, .inl (.inl hD4), fun l hl => ?_⟩
                rw [cut_one]
                walk_at "gg"
                exact ⟨⟨S, r, si⟩, l, _, _, rfl, hi, stepTo _ (by rw [e1, if_pos (.inl ⟨fun h => c3 (mem2.mpr (.inl h)), fun h => c3 (mem2.mpr (.inr h))⟩)]), sm3.trans (same_new hl _), by rw [upd_ne (ne_of_none hS4 hl)]; exact hS4, upd_same, slen⟩
              · have c3' : ¬ (n ≠ ("numbers" : Str) ∧ n ≠ ("labels" : Str)) := by
                  rintro ⟨h1, h2⟩
                  rcases mem2.mp c3 with h | h
                  · exact h1 h
                  · exact h2 h
                walk_at "gg"
                refine g_ite (fun c4 => ?_) (fun c4 => ?_)
                · walk_at "gg"
                  refine .inl ⟨ld, _, rfl, .inl (.inl hD4), fun l hl => ?_⟩
                  rw [cut_one]
                  walk_at "gg"
                  exact ⟨⟨S, r, si⟩, l, _, _, rfl, hi, stepTo _ (by rw [e1, if_pos (.inr c4)]), sm3.trans (same_new hl _), by rw [upd_ne (ne_of_none hS4 hl)]; exact hS4, upd_same, slen⟩
                · walk_at "gg"
                  exact ⟨⟨S, n :: r, si⟩, ld, _, _, rfl, hi, stepTo _ (by rw [e1, if_neg (by rintro (h | h); exact c3' h; exact c4 h)]), sm3, hS4, hD4, slen⟩
          · walk_at "gg"
            exact failAt _ (by rw [sg_other c d, if_pos (.inl c1)]) sm2
    · rintro σ' H1 ⟨⟨S, due, si⟩, ld, o1, o2, rfl, hi', run, sm, hS, hD, hSl⟩
      have wf := wf_init.run run
      dsimp only at hS hD hSl ⊢
      walk_at "gg"
      refine g_lenL (.inl (.inl (sm _ _ hlw))) ?_
      rw [hlen]
      walk_at "gg"
      refine g_ite (fun c => ?_) (fun c => ?_)
      · walk_at "gg"
        exact q _ _ (.inr ⟨_, run, .inl ⟨by omega, rfl⟩⟩) sm
      · walk_at "gg"
        refine ⟨nil_le, fun l1 hl1 => ?_⟩
        have sm1 := sm.trans (same_new hl1 (.lst []))
        walk_at "gg"
        refine g_neLI (xs := S) (ys := []) (.inl (.inl (by rw [upd_ne (ne_of_none hS hl1)]; exact hS))) (.inl (.inl upd_same)) ?_
        walk_at "gg"
        refine g_iteN (fun c1 => ?_) (fun c1 => ?_)
        · walk_at "gg"
          refine g_lenL (.inl (.inl (sm1 _ _ hlw))) ?_
          rw [hlen]
          walk_at "gg"
          exact q _ _ (.inr ⟨_, run, .inr (.inl ⟨by omega, fun h => c1 h.1, rfl⟩)⟩) sm1
        · walk_at "gg"
          refine ⟨one_le, fun l2 hl2 => ?_⟩
          have sm2 := sm1.trans (same_new hl2 (.lst [V.str "after"]))
          have hD2 : (upd H1 l1 (.lst [])) ld = some (.lst (due.map V.str)) := by rw [upd_ne (ne_of_none hD hl1)]; exact hD
          walk_at "gg"
          refine g_neLS (xs := due) (ys := ["after"]) (.inl (.inl (by rw [upd_ne (ne_of_none hD2 hl2)]; exact hD2))) (.inl (.inl upd_same)) wf.asc (by decide +kernel) ?_
          walk_at "gg"
          refine g_iteN (fun c2 => ?_) (fun c2 => ?_)
          · walk_at "gg"
            refine g_lenL (.inl (.inl (sm2 _ _ hlw))) ?_
            rw [hlen]
            walk_at "gg"
            exact q _ _ (.inr ⟨_, run, .inr (.inl ⟨by omega, fun h => c2 h.2, rfl⟩)⟩) sm2
          · walk_at "gg"
            exact q _ _ (.inr ⟨_, run, .inr (.inr ⟨by omega, ⟨c1, c2⟩, rfl⟩)⟩) sm2
end
end My
namespace My
open PySem PySem.Spec PyProof.Rows L2 He He5 Go NumT RatA TL TxtA DeqA
local macro_rules | `(tactic| walk_at "gv") => `(tactic| first
  | with_reducible refine g_v0 ?_ | with_reducible refine g_v1 ?_ | with_reducible refine g_v2 ?_ | with_reducible refine g_v3 ?_ | with_reducible refine g_v4 ?_ | with_reducible refine g_v5 ?_
  | with_reducible refine g_v6 ?_ | with_reducible refine g_v7 ?_ | with_reducible refine g_v8 ?_ | with_reducible refine g_v9 ?_ | with_reducible refine g_v10 ?_ | with_reducible refine g_v11 ?_ | with_reducible refine g_v12 ?_)
local macro_rules | `(tactic| walk_at "gn") => `(tactic| first
  | with_reducible refine g_n0 ?_ | with_reducible refine g_n1 ?_ | with_reducible refine g_n2 ?_ | with_reducible refine g_n3 ?_ | with_reducible refine g_n4 ?_ | with_reducible refine g_n5 ?_
  | with_reducible refine g_n6 ?_ | with_reducible refine g_n7 ?_ | with_reducible refine g_n8 ?_ | with_reducible refine g_n9 ?_ | with_reducible refine g_n10 ?_ | with_reducible refine g_n11 ?_ | with_reducible refine g_n12 ?_)
local macro_rules | `(tactic| walk_at "gs") => `(tactic| first
  | with_reducible refine g_asg ?_ | with_reducible refine g_ret ?_ | with_reducible refine g_if ?_ | with_reducible refine g_drop ?_ | with_reducible refine g_next ?_
  | with_reducible refine g_retN ?_ | with_reducible refine g_brk ?_ | with_reducible refine g_cont ?_ | with_reducible refine g_forA ?_ | with_reducible refine g_sfld ?_)
local macro_rules | `(tactic| walk_at "ge") => `(tactic| first
  | with_reducible refine g_c ?_ | with_reducible refine g_op ?_ | with_reducible refine g_test ?_ | with_reducible refine g_bl ?_ | with_reducible refine g_tB ?_ | with_reducible refine g_not ?_
  | with_reducible refine g_and ?_ | with_reducible refine g_or ?_ | with_reducible refine g_notV ?_ | with_reducible refine g_andV ?_ | with_reducible refine g_orV ?_ | with_reducible refine g_ifE ?_
  | with_reducible refine g_un ?_ | with_reducible refine g_chain ?_ | with_reducible refine g_nil ?_ | with_reducible refine g_cons ?_ | with_reducible refine g_tup ?_ | with_reducible refine g_lst ?_
  | with_reducible refine g_cb ?_ | with_reducible refine g_call ?_ | with_reducible refine g_cmeth ?_ | with_reducible refine g_make ?_ | with_reducible refine g_noPart ?_ | with_reducible refine g_part ?_
  | with_reducible refine g_partI ?_ | with_reducible refine g_sl ?_ | with_reducible refine g_m1 ?_ | with_reducible refine g_m0 ?_ | with_reducible refine g_isS ?_ | with_reducible refine g_gsub ?_
  | with_reducible refine g_gcons ?_ | with_reducible refine g_gnil ?_ | with_reducible refine g_bm ?_ | with_reducible refine g_bm0 ?_ | with_reducible refine g_mk ?_ | with_reducible refine g_lc ?_ | with_reducible refine g_fld ?_ | with_reducible refine g_yes ?_)
local macro_rules | `(tactic| walk_at "go_") => `(tactic| first
  | with_reducible refine g_addI ?_ | with_reducible refine g_subI ?_ | with_reducible refine g_ltI ?_ | with_reducible refine g_leI ?_ | with_reducible refine g_gtI ?_ | with_reducible refine g_geI ?_
  | with_reducible refine g_eqI ?_ | with_reducible refine g_eqS ?_ | with_reducible refine g_neI ?_ | with_reducible refine g_neS ?_
  | with_reducible refine g_isNn ?_ | with_reducible refine g_isNi ?_ | with_reducible refine g_isNs ?_ | with_reducible refine g_isNr ?_
  | with_reducible refine g_notNn ?_ | with_reducible refine g_notNi ?_ | with_reducible refine g_notNs ?_ | with_reducible refine g_notNr ?_ | with_reducible refine g_neg ?_
  | with_reducible refine g_inS ?_ | with_reducible refine g_niS ?_ | with_reducible refine g_iteT ?_ | with_reducible refine g_iteF ?_ | with_reducible refine g_iteNT ?_ | with_reducible refine g_iteNF ?_
  | with_reducible refine g_intI ?_ | with_reducible refine g_intB ?_ | with_reducible refine g_gcd ?_ | with_reducible refine g_max2 ?_ | with_reducible refine g_min2 ?_ | with_reducible refine g_stw ?_ | with_reducible refine g_abs ?_
  | with_reducible refine g_iStr ?_ | with_reducible refine g_exS ?_ | with_reducible refine g_iList ?_ | with_reducible refine g_iTup ?_ | with_reducible refine g_iR1 ?_ | with_reducible refine g_iR2 ?_ | with_reducible refine g_exR1 (by omega) (by omega) ?_ | with_reducible refine g_exR2 (by omega) ?_)
local macro_rules | `(tactic| walk_at "go1") => `(tactic| first | walk_at "gs" | with_reducible refine g_seq ?_ | walk_at "gv" | walk_at "ge" | walk_at "gn" | walk_at "go_")
local macro_rules | `(tactic| walk_at "go") => `(tactic| repeat walk_at "go1")
local macro_rules | `(tactic| walk_at "gl") => `(tactic| first
  | with_reducible refine g_lenS (by assumption) ?_ | with_reducible refine g_lenL (by assumption) ?_ | with_reducible refine g_lenT (by assumption) ?_ | with_reducible refine g_exL (by assumption) ?_ | with_reducible refine g_exT (by assumption) ?_)
local macro_rules | `(tactic| walk_at "gw") => `(tactic| repeat (first | walk_at "gs" | walk_at "gv" | walk_at "ge" | walk_at "gn" | walk_at "go_" | walk_at "gl"))
local macro_rules | `(tactic| walk_at "go2") => `(tactic| first | walk_at "go1" | walk_at "gl")
local macro_rules | `(tactic| walk_at "gg") => `(tactic| repeat walk_at "go2")

theorem kit_ii {K : PySem.W.Frag} : PySem.W.kitOne K (.type "int") (.type "int") = some true := by
  unfold PySem.W.kitOne
  rw [if_pos (by decide +kernel)]
theorem kit_ib {K : PySem.W.Frag} : PySem.W.kitOne K (.type "int") (.type "bool") = some false := by
  unfold PySem.W.kitOne
  rw [if_neg (by decide +kernel)]
  kernel_rfl
theorem g_isEx {K : PySem.W.Frag} {a D : Addr} {d : Option Addr} {c : V} {cv : Value} {b : Bool} {H : Hp} {Q : VK} (C : ExcC K D) (hd : d = none ∨ ∃ dd fs, d = some dd ∧ H dd = some (.xd fs)) (hc : ClsV c cv) (e : PySem.W.kitOne K (.ref D) cv = some b) (h : Q (.bl b) H) :
    rIsE K a (.ref D) d [.ref a, c] H Q ∨ rIsi K [.ref a, c] H Q := .inl ⟨D, c, cv, b, rfl, C, hd, rfl, fun u r => hc.eq r, e, h⟩
theorem g_xf {K : PySem.W.Frag} {a : Addr} {cls : Value} {d : Option Addr} {f : Str} {te : TE} {σ : L2.St} {H : Hp} {Q : VK} (h : te σ H fun x H1 => x = .ref a ∧ ∃ (C dd : Addr) (fs : List (Str × V)) (v : V), cls = .ref C ∧ XfC K C ∧ PySem.W.findIn K (.ref C) f = some none ∧ d = some dd ∧ H1 dd = some (.xd fs) ∧ fs.lookup f = some v ∧ Q v H1) : tXfA K a cls d f te σ H Q := h
theorem g_isIn {K : PySem.W.Frag} {a : Addr} {cls : Value} {d : Option Addr} {i : Int} {c : V} {cv : Value} {b : Bool} {H : Hp} {Q : VK} (hc : ClsV c cv) (e : PySem.W.kitOne K (.type "int") cv = some b) (h : Q (.bl b) H) :
    rIsE K a cls d [.int i, c] H Q ∨ rIsi K [.int i, c] H Q := .inr ⟨.int i, c, _, cv, b, rfl, hc, .base (.int i), e, h⟩
section
variable {P : Program} {w : World} {K : PySem.W.Frag} {mg : Str → Option Value} {base : Heap}
def spRefused : Sp := fun vs H Q _ => ∃ (x : Str) (i : Nat), vs = [.str x, .int (i : Int)] ∧ x.length + 2 ≤ sizeLine ∧ LawAt (Txt.split x " ") i ∧ ∀ H', Same H H' → Q (.bl true) H'
theorem ok__law_refused (T : Tx fxL fnL K mg) : FnR P w K mg base (L2.CX P w) 64 (ga K "_law_refused") spRefused := by
  refine fun_ok (F__law_refused T) sc__law_refused (fun _ _ _ _ _ _ us hl => match us, hl with | [_, _], _ => rfl) ?_ ?_
  · rintro vs H Q E ⟨x, i, rfl, _⟩
    rfl
  · rintro cdv A outer s H vs Q E hr ⟨x, i, rfl, hz, la, q⟩
    refine ⟨_, (pss_cons (ps_try_as (i := 2) rfl rfl sc__law_refused.nd rfl rfl ⟨rfl, by decide, .inl (gm_CarryError T)⟩ (takes_of rfl rfl rfl rfl) (fun W pn xe tk po => (pss_one (ps_expr (pe_makeF (mk_Question T) ((ok_Question___init__ T).mono (by decide)) hr tk (by rfl) (gm_Question T) (pa_cons (pv 0) pa_nil))))) (fun a oe cls d pn hz hf => (pss_cons (ps_if (PW.pt (pw_or (pt_not (pt_val (pe_callB (c_isA hz hf) (by rfl) (z_isinstance T) (by decide +kernel) (pa_cons (pv 2) (pa_cons (pe_glob (v := .ref (ga K "BadQuestion")) (by rfl) (gm_BadQuestion T) rfl) pa_nil))))) (pw_or1 (pt_not (pt_val (pe_callB (c_isA hz hf) (by rfl) (z_isinstance T) (by decide +kernel) (pa_cons (pv 2) (pa_cons (pe_bltn (v := .ty "ValueError") (by rfl) (z_ValueError T) (by decide +kernel) rfl) pa_nil)))))))) (pss_one (ps_ret pe_bl)) pss_nil)
 (pss_cons (ps_if (PW.pt (pw_or (pt_val (pe_callB (c_isA hz hf) (by rfl) (z_isinstance T) (by decide +kernel) (pa_cons (pv 2) (pa_cons (pe_glob (v := .ref (ga K "BadDeed")) (by rfl) (gm_BadDeed T) rfl) pa_nil)))) (pw_or (pt_val (pe_callB (c_isA hz hf) (by rfl) (z_isinstance T) (by decide +kernel) (pa_cons (pv 2) (pa_cons (pe_glob (v := .ref (ga K "BadPlace")) (by rfl) (gm_BadPlace T) rfl) pa_nil)))) (pw_or1 (pt_val (pe_callB (c_isA hz hf) (by rfl) (z_isinstance T) (by decide +kernel) (pa_cons (pv 2) (pa_cons (pe_glob (v := .ref (ga K "BadNumber")) (by rfl) (gm_BadNumber T) rfl) pa_nil)))))))) (pss_one (ps_ret pe_bl)) pss_nil)
 (pss_cons (ps_if (PW.pt (pw_or (pt_not (pt_val (pe_callB (c_isA hz hf) (by rfl) (z_isinstance T) (by decide +kernel) (pa_cons (pe_xfA hz hf (pv 2)) (pa_cons (pe_bltn (v := .ty "int") (by rfl) (z_int T) (by decide +kernel) rfl) pa_nil))))) (pw_or1 (pt_val (pe_callB (c_isA hz hf) (by rfl) (z_isinstance T) (by decide +kernel) (pa_cons (pe_xfA hz hf (pv 2)) (pa_cons (pe_bltn (v := .ty "bool") (by rfl) (z_bool T) (by decide +kernel) rfl) pa_nil))))))) (pss_one (ps_ret pe_bl)) pss_nil)
 (pss_one (ps_ret (pe_cmpR (o_eqK K hr.units) (pe_xfA hz hf (pv 2)) (pv 1) (nomark _)))))))))
 (pss_one (ps_ret pe_bl))), ?_⟩
    refine g_start (σ := [some (.str x), some (.int (i : Int)), none]) rfl ?_
    walk_at "gg"
    intro p dx hp hdx ne
    refine ⟨p, dx, x, rfl, hz, upd_same, fun lm => ?_, fun j lj d H2 b hd hx => ?_⟩
    · have := lm.fn la
      omega
    · have e : j = i := by
        have := lj.fn la
        omega
      subst e
      have sm : Same H H2 := same_made hp hdx b
      refine ⟨true, xm_BadQuestion_CarryError T, fun _ a ha => ?_, fun z => nomatch z⟩
      have hd1 : (some d : Option Addr) = none ∨ ∃ dd fs, (some d : Option Addr) = some dd ∧ H2 dd = some (.xd fs) := .inr ⟨d, _, rfl, hx⟩
      refine g_start (σ := [some (.str x), some (.int (j : Int)), some (.ref a)]) rfl ?_
      walk_at "gg"
      refine g_isEx (xe_BadQuestion T) hd1 (.own _) (xi_BadQuestion_BadQuestion T) ?_
      walk_at "gg"
      refine g_isEx (xe_BadQuestion T) hd1 (.ty _) (xi_BadQuestion_ValueError T) ?_
      walk_at "gg"
      refine g_isEx (xe_BadQuestion T) hd1 (.own _) (xi_BadQuestion_BadDeed T) ?_
      walk_at "gg"
      refine g_isEx (xe_BadQuestion T) hd1 (.own _) (xi_BadQuestion_BadPlace T) ?_
      walk_at "gg"
      refine g_isEx (xe_BadQuestion T) hd1 (.own _) (xi_BadQuestion_BadNumber T) ?_
      walk_at "gg"
      refine g_xf ?_
      walk_at "gg"
      refine ⟨rfl, _, d, _, _, rfl, xf_BadQuestion T, xn_BadQuestion_place T, rfl, hx, rfl, ?_⟩
      walk_at "gg"
      refine g_isIn (.ty _) kit_ii ?_
      walk_at "gg"
      refine g_xf ?_
      walk_at "gg"
      refine ⟨rfl, _, d, _, _, rfl, xf_BadQuestion T, xn_BadQuestion_place T, rfl, hx, rfl, ?_⟩
      walk_at "gg"
      refine g_isIn (.ty _) kit_ib ?_
      walk_at "gg"
      refine g_xf ?_
      walk_at "gg"
      refine ⟨rfl, _, d, _, _, rfl, xf_BadQuestion T, xn_BadQuestion_place T, rfl, hx, rfl, ?_⟩
      walk_at "gg"
      rw [decide_eq_true rfl]
      exact q H2 sm
def spLet : Sp := fun vs H Q _ => ∃ x : Str, vs = [.str x] ∧ x.length + 2 ≤ sizeLine ∧ asc x = true ∧ LawAt (Txt.split x " ") (-1) ∧ ∀ H', Same H H' → Q (.bl true) H'
theorem kit_tt {K : PySem.W.Frag} : PySem.W.kitOne K (.type "tuple") (.type "tuple") = some true := by
  unfold PySem.W.kitOne
  rw [if_pos (by decide +kernel)]
theorem spl_asc : ∀ (l acc : List Nat), (∀ c ∈ acc, c < 0x110000) → (∀ c ∈ l, c < 0x110000) → ∀ p ∈ spl [32] 0 acc l, ∀ c ∈ p, c < 0x110000
  | [], acc, h1, _, p, hp => by
    rw [spl_nil] at hp
    rw [List.mem_singleton.mp hp]
    exact h1
  | c :: r, acc, h1, h2, p, q => by
    have h3 : ∀ c ∈ r, c < 0x110000 := fun d hd => h2 d (List.mem_cons_of_mem _ hd)
    cases hp : pre [32] (c :: r) with
    | true =>
      rw [spl_hit hp] at q
      rcases List.mem_cons.mp q with rfl | q
      · exact h1
      · exact spl_asc r [] (by simp) h3 p q
    | false =>
      rw [spl_miss hp] at q
      refine spl_asc r (acc ++ [c]) (fun d hd => ?_) h3 p q
      rcases List.mem_append.mp hd with hd | hd
      · exact h1 d hd
      · rw [List.mem_singleton.mp hd]
        exact h2 c List.mem_cons_self
theorem asc_iff {x : Str} : asc x = true ↔ ∀ c ∈ tl x, c < 0x110000 := by
  unfold asc PyData.strOk
  rw [Array.all_eq_true_iff_forall_mem]
  constructor
  · intro h c hc
    have := h c (Array.mem_toList_iff.mp hc)
    simpa using this
  · intro h c hc
    have := h c (Array.mem_toList_iff.mpr hc)
    simpa using this
theorem split_asc {x : Str} (h : asc x = true) : ∀ y ∈ Txt.split x (" " : Str), asc y = true := fun y hy =>
  asc_iff.mpr (spl_asc (tl x) [] (by simp) (asc_iff.mp h) (tl y) (by rw [← split_tl]; exact List.mem_map.mpr ⟨y, hy, rfl⟩))
theorem ok__law_let (T : Tx fxL fnL K mg) : FnR P w K mg base (L2.CX P w) 64 (ga K "_law_let") spLet := by
  refine fun_ok (F__law_let T) sc__law_let (fun _ _ _ _ _ _ us hl => match us, hl with | [_], _ => rfl) ?_ ?_
  · rintro vs H Q E ⟨x, rfl, _⟩
    rfl
  · rintro cdv A outer s H vs Q E hr ⟨x, rfl, hz, ha, la, q⟩
    refine ⟨_, (pss_cons (ps_try_only rfl rfl ⟨rfl, by decide, .inl (gm_CarryError T)⟩ (takes_of rfl rfl rfl rfl) (fun W pn xe tk po => (pss_one (ps_set (i := 1) sc__law_let.nd rfl (Or.inl rfl) (pe_makeF (mk_Question T) ((ok_Question___init__ T).mono (by decide)) hr tk (by rfl) (gm_Question T) (pa_cons (pv 0) pa_nil))))) (fun a oe cls d pn hz hf => (pss_one (ps_ret pe_bl))))
 (pss_cons (ps_set (i := 2) sc__law_let.nd rfl (Or.inl rfl) (pe_fld (pv 1) rfl))
 (pss_one (ps_ret (pe_and (pe_callB call_isi (by rfl) (z_isinstance T) (by decide +kernel) (pa_cons (pv 2) (pa_cons (pe_bltn (v := .ty "tuple") (by rfl) (z_tuple T) (by decide +kernel) rfl) pa_nil))) (pe_one (pe_cmpR (o_eq hr.units) (pv 2) (pe_callTy b_tuple (by rfl) (z_tuple T) (by decide +kernel) (pa_cons (pe_m1 PySem.F.slot_str_split PySem.F.type_str_split m_split (pv 0) pe_str) pa_nil)) (nomark _)))))))), ?_⟩
    refine g_start (σ := [some (.str x), none, none]) rfl ?_
    walk_at "gg"
    intro p dx hp hdx ne
    refine ⟨p, dx, x, rfl, hz, upd_same, fun lm H2 t v b hq ht => ⟨rfl, ?_⟩, fun j lj d H2 b hd hx => ?_⟩
    · have sm : Same H H2 := same_made hp hdx b
      walk_at "gg"
      refine g_get hq (cl_Question T) (na_Question_words T) rfl ?_
      walk_at "gg"
      refine ⟨_, _, _, _, _, rfl, .ty _, .base (.tup ht), kit_tt, ?_⟩
      walk_at "gg"
      refine g_split (by decide +kernel) hz fun l hl => ?_
      have ht2 : (upd H2 l (.lst ((Txt.split x " ").map V.str))) t = some (.tup ((Txt.split x " ").map V.str)) := by rw [upd_ne (ne_of_none ht hl)]; exact ht
      walk_at "gg"
      refine g_tupL (.inl (.inl upd_same)) fun u hu => ?_
      walk_at "gg"
      refine g_eqTS (.inl (.inl (by rw [upd_ne (ne_of_none ht2 hu)]; exact ht2))) (.inl (.inl upd_same)) (split_asc ha) (split_asc ha) ?_
      rw [decide_eq_true rfl]
      exact q _ ((sm.trans (same_new hl _)).trans (same_new hu _))
    · have := lj.fn la
      omega
end
end My
namespace My
open PySem PySem.Spec PyProof.Rows L2 He He5 Go NumT RatA TL TxtA DeqA
local macro_rules | `(tactic| walk_at "gv") => `(tactic| first
  | with_reducible refine g_v0 ?_ | with_reducible refine g_v1 ?_ | with_reducible refine g_v2 ?_ | with_reducible refine g_v3 ?_ | with_reducible refine g_v4 ?_ | with_reducible refine g_v5 ?_
  | with_reducible refine g_v6 ?_ | with_reducible refine g_v7 ?_ | with_reducible refine g_v8 ?_ | with_reducible refine g_v9 ?_ | with_reducible refine g_v10 ?_ | with_reducible refine g_v11 ?_ | with_reducible refine g_v12 ?_)
local macro_rules | `(tactic| walk_at "gn") => `(tactic| first
  | with_reducible refine g_n0 ?_ | with_reducible refine g_n1 ?_ | with_reducible refine g_n2 ?_ | with_reducible refine g_n3 ?_ | with_reducible refine g_n4 ?_ | with_reducible refine g_n5 ?_
  | with_reducible refine g_n6 ?_ | with_reducible refine g_n7 ?_ | with_reducible refine g_n8 ?_ | with_reducible refine g_n9 ?_ | with_reducible refine g_n10 ?_ | with_reducible refine g_n11 ?_ | with_reducible refine g_n12 ?_)
local macro_rules | `(tactic| walk_at "gs") => `(tactic| first
  | with_reducible refine g_asg ?_ | with_reducible refine g_ret ?_ | with_reducible refine g_if ?_ | with_reducible refine g_drop ?_ | with_reducible refine g_next ?_
  | with_reducible refine g_retN ?_ | with_reducible refine g_brk ?_ | with_reducible refine g_cont ?_ | with_reducible refine g_forA ?_ | with_reducible refine g_sfld ?_)
local macro_rules | `(tactic| walk_at "ge") => `(tactic| first
  | with_reducible refine g_c ?_ | with_reducible refine g_op ?_ | with_reducible refine g_test ?_ | with_reducible refine g_bl ?_ | with_reducible refine g_tB ?_ | with_reducible refine g_not ?_
  | with_reducible refine g_and ?_ | with_reducible refine g_or ?_ | with_reducible refine g_notV ?_ | with_reducible refine g_andV ?_ | with_reducible refine g_orV ?_ | with_reducible refine g_ifE ?_
  | with_reducible refine g_un ?_ | with_reducible refine g_chain ?_ | with_reducible refine g_nil ?_ | with_reducible refine g_cons ?_ | with_reducible refine g_tup ?_ | with_reducible refine g_lst ?_
  | with_reducible refine g_cb ?_ | with_reducible refine g_call ?_ | with_reducible refine g_cmeth ?_ | with_reducible refine g_make ?_ | with_reducible refine g_noPart ?_ | with_reducible refine g_part ?_
  | with_reducible refine g_partI ?_ | with_reducible refine g_sl ?_ | with_reducible refine g_m1 ?_ | with_reducible refine g_m0 ?_ | with_reducible refine g_isS ?_ | with_reducible refine g_gsub ?_
  | with_reducible refine g_gcons ?_ | with_reducible refine g_gnil ?_ | with_reducible refine g_bm ?_ | with_reducible refine g_bm0 ?_ | with_reducible refine g_mk ?_ | with_reducible refine g_lc ?_ | with_reducible refine g_fld ?_ | with_reducible refine g_yes ?_)
local macro_rules | `(tactic| walk_at "go_") => `(tactic| first
  | with_reducible refine g_addI ?_ | with_reducible refine g_subI ?_ | with_reducible refine g_ltI ?_ | with_reducible refine g_leI ?_ | with_reducible refine g_gtI ?_ | with_reducible refine g_geI ?_
  | with_reducible refine g_eqI ?_ | with_reducible refine g_eqS ?_ | with_reducible refine g_neI ?_ | with_reducible refine g_neS ?_
  | with_reducible refine g_isNn ?_ | with_reducible refine g_isNi ?_ | with_reducible refine g_isNs ?_ | with_reducible refine g_isNr ?_
  | with_reducible refine g_notNn ?_ | with_reducible refine g_notNi ?_ | with_reducible refine g_notNs ?_ | with_reducible refine g_notNr ?_ | with_reducible refine g_neg ?_
  | with_reducible refine g_inS ?_ | with_reducible refine g_niS ?_ | with_reducible refine g_iteT ?_ | with_reducible refine g_iteF ?_ | with_reducible refine g_iteNT ?_ | with_reducible refine g_iteNF ?_
  | with_reducible refine g_intI ?_ | with_reducible refine g_intB ?_ | with_reducible refine g_gcd ?_ | with_reducible refine g_max2 ?_ | with_reducible refine g_min2 ?_ | with_reducible refine g_stw ?_ | with_reducible refine g_abs ?_
  | with_reducible refine g_iStr ?_ | with_reducible refine g_exS ?_ | with_reducible refine g_iList ?_ | with_reducible refine g_iTup ?_ | with_reducible refine g_iR1 ?_ | with_reducible refine g_iR2 ?_ | with_reducible refine g_exR1 (by omega) (by omega) ?_ | with_reducible refine g_exR2 (by omega) ?_)
local macro_rules | `(tactic| walk_at "go1") => `(tactic| first | walk_at "gs" | with_reducible refine g_seq ?_ | walk_at "gv" | walk_at "ge" | walk_at "gn" | walk_at "go_")
local macro_rules | `(tactic| walk_at "go") => `(tactic| repeat walk_at "go1")
local macro_rules | `(tactic| walk_at "gl") => `(tactic| first
  | with_reducible refine g_lenS (by assumption) ?_ | with_reducible refine g_lenL (by assumption) ?_ | with_reducible refine g_lenT (by assumption) ?_ | with_reducible refine g_exL (by assumption) ?_ | with_reducible refine g_exT (by assumption) ?_)
local macro_rules | `(tactic| walk_at "gw") => `(tactic| repeat (first | walk_at "gs" | walk_at "gv" | walk_at "ge" | walk_at "gn" | walk_at "go_" | walk_at "gl"))
local macro_rules | `(tactic| walk_at "go2") => `(tactic| first | walk_at "go1" | walk_at "gl")
local macro_rules | `(tactic| walk_at "gg") => `(tactic| repeat walk_at "go2")

/-! ### words as the law makes them -/
structure Wok (x : Str) : Prop where
  len : x.length ≤ 60
  asc : asc x = true
  nos : 32 ∉ tl x
def WsOk (ws : List Str) : Prop := ∀ y ∈ ws, Wok y
/-- words as they are asked, a sign longer perhaps -/
structure Wal (x : Str) : Prop where
  len : x.length ≤ 64
  asc : asc x = true
  nos : 32 ∉ tl x
def WsAl (ws : List Str) : Prop := ∀ y ∈ ws, Wal y
theorem Wok.al {x : Str} (h : Wok x) : Wal x := ⟨Nat.le_trans h.len (by decide), h.asc, h.nos⟩
theorem WsOk.al {ws : List Str} (h : WsOk ws) : WsAl ws := fun y hy => (h y hy).al
def txt (ws : List Str) : Str := Txt.join (" " : Str) ws
theorem joinL_len : ∀ ps : List (List Nat), (joinL [32] ps).length ≤ (ps.map List.length).sum + ps.length
  | [] => Nat.zero_le _
  | [p] => by
    show p.length ≤ _
    simp
  | p :: q :: r => by
    have := joinL_len (q :: r)
    show (p ++ ([32] ++ joinL [32] (q :: r))).length ≤ _
    rw [List.length_append, List.length_append, List.map_cons, List.sum_cons]
    have e1 : (p :: q :: r).length = (q :: r).length + 1 := rfl
    have e2 : ([32] : List Nat).length = 1 := rfl
    omega
theorem joinL_mem : ∀ (ps : List (List Nat)) (c : Nat), c ∈ joinL [32] ps → c = 32 ∨ ∃ p ∈ ps, c ∈ p
  | [], c, h => by cases h
  | [p], c, h => .inr ⟨p, List.mem_singleton.mpr rfl, h⟩
  | p :: q :: r, c, h => by
    have h' : c ∈ p ++ ([32] ++ joinL [32] (q :: r)) := h
    rcases List.mem_append.mp h' with h' | h'
    · exact .inr ⟨p, List.mem_cons_self, h'⟩
    · rcases List.mem_append.mp h' with h' | h'
      · exact .inl (List.mem_singleton.mp h')
      · rcases joinL_mem (q :: r) c h' with h' | ⟨p', h1, h2⟩
        · exact .inl h'
        · exact .inr ⟨p', List.mem_cons_of_mem _ h1, h2⟩
theorem txt_tl (ws : List Str) : tl (txt ws) = joinL [32] (ws.map tl) := by
  unfold txt
  rw [join_eq, tl_join, space_tl]
theorem txt_split {ws : List Str} (h : WsAl ws) : Txt.split (txt ws) (" " : Str) = if ws = [] then [("" : Str)] else ws := by
  by_cases e : ws = []
  · rw [if_pos e, e]
    refine map_tl_inj ?_
    rw [split_tl, txt_tl]
    rfl
  · rw [if_neg e]
    exact split_join (S := []) space_tl (by decide +kernel) e fun p hp => (h p hp).nos
theorem sum_le : ∀ (ws : List Str) (n : Nat), (∀ y ∈ ws, y.length ≤ n) → (ws.map (fun x => x.length)).sum ≤ ws.length * n
  | [], n, _ => Nat.zero_le _
  | y :: ws, n, h => by
    have h1 := h y List.mem_cons_self
    have h2 := sum_le ws n fun z hz => h z (List.mem_cons_of_mem _ hz)
    rw [List.map_cons, List.sum_cons, List.length_cons, Nat.add_mul]
    omega
theorem txt_len {ws : List Str} {n : Nat} (h : ∀ y ∈ ws, y.length ≤ n) : (txt ws).length ≤ ws.length * n + ws.length := by
  rw [len_tl, txt_tl]
  have h1 := joinL_len (ws.map tl)
  have e : (ws.map tl).map List.length = ws.map (fun x => x.length) := by
    rw [List.map_map]
    rfl
  rw [e, List.length_map] at h1
  have h2 := sum_le ws n h
  omega
theorem txt_asc {ws : List Str} (h : WsAl ws) : asc (txt ws) = true := asc_iff.mpr fun c hc => by
  rw [txt_tl] at hc
  rcases joinL_mem _ c hc with rfl | ⟨p, hp, hc⟩
  · decide
  · obtain ⟨y, hy, rfl⟩ := List.mem_map.mp hp
    exact asc_iff.mp (h y hy).asc c hc
theorem LawAt.nat {ws : List Str} {r : Int} (h : LawAt ws r) : r = -1 ∨ ∃ i : Nat, r = i := by
  rcases h with ⟨i, b, _, _, _, e⟩ | ⟨b, _, ⟨_, e⟩ | ⟨_, _, e⟩ | ⟨_, _, e⟩⟩
  · exact .inr ⟨i, e⟩
  · exact .inr ⟨200, e⟩
  · exact .inr ⟨_, e⟩
  · exact .inl e
section
variable {P : Program} {w : World} {K : PySem.W.Frag} {mg : Str → Option Value} {base : Heap}
def spAsked : Sp := fun vs H Q _ => ∃ (lw : Addr) (ws : List Str), vs = [.ref lw] ∧ H lw = some (.lst (ws.map V.str)) ∧ ws.length ≤ 1000 ∧ WsAl ws ∧ ∀ H', Same H H' → Q (.bl true) H'
theorem g_join {s : Str} {ys : List Str} {H : Hp} {p : Addr} {Q : VK} (hl : SqL K H p (ys.map V.str)) (hz : (ys.map (fun x => x.length)).sum + ys.length * s.length ≤ 16777216) (h : Q (.str (Txt.join s ys)) H) : rJoinA K (.str s) [.ref p] H Q := g_joinL hl hz h
theorem ok__law_asked (T : Tx fxL fnL K mg) : FnR P w K mg base (L2.CX P w) 66 (ga K "_law_asked") spAsked := by
  refine fun_ok (F__law_asked T) sc__law_asked (fun _ _ _ _ _ _ us hl => match us, hl with | [_], _ => rfl) ?_ ?_
  · rintro vs H Q E ⟨lw, ws, rfl, _⟩
    rfl
  · rintro cdv A outer s H vs Q E hr ⟨lw, ws, rfl, hlw, hn, hok, q⟩
    refine ⟨_, (pss_cons (ps_set (i := 1) sc__law_asked.nd rfl (Or.inl rfl) (pe_m1 PySem.F.slot_str_join PySem.F.type_str_join m_join pe_str (pv 0)))
 (pss_cons (ps_set (i := 2) sc__law_asked.nd rfl (Or.inl rfl) (pe_callF ((ok__law_wrong_at T).mono (by decide)) hr (takes_of rfl rfl rfl rfl) (by rfl) (gm__law_wrong_at T) (k__law_wrong_at T) (pa_cons (pe_m1 PySem.F.slot_str_split PySem.F.type_str_split m_split (pv 1) pe_str) pa_nil)))
 (pss_cons (ps_if (pt_cmpR (o_eq hr.units) (pv 2) (pe_un un_neg pe_int) (nomark _)) (pss_one (ps_ret (pe_callF ((ok__law_let T).mono (by decide)) hr (takes_of rfl rfl rfl rfl) (by rfl) (gm__law_let T) (k__law_let T) (pa_cons (pv 1) pa_nil)))) pss_nil)
 (pss_one (ps_ret (pe_callF ((ok__law_refused T).mono (by decide)) hr (takes_of rfl rfl rfl rfl) (by rfl) (gm__law_refused T) (k__law_refused T) (pa_cons (pv 1) (pa_cons (pv 2) pa_nil)))))))), ?_⟩
    refine g_start (σ := [some (.ref lw), none, none]) rfl ?_
    have h64 : ∀ y ∈ ws, y.length ≤ 64 := fun y hy => (hok y hy).len
    have hsum := sum_le ws 64 h64
    have htl : (txt ws).length + 3 ≤ sizeLine := by
      have := txt_len h64
      rw [sizeLine_eq]
      omega
    walk_at "gg"
    refine g_join (.inl (.inl hlw)) ?_ ?_
    · rw [show (" " : Str).length = 1 from rfl]
      omega
    walk_at "gg"
    refine g_split (by decide +kernel) (show (txt ws).length + 2 ≤ _ by omega) fun l hl => ?_
    have s1 := same_new hl (.lst ((Txt.split (txt ws) " ").map V.str))
    have hw : ∀ y ∈ Txt.split (txt ws) " ", y.length ≤ 64 := fun y hy => by
      rw [txt_split hok] at hy
      split at hy
      · rw [List.mem_singleton.mp hy]
        exact Nat.zero_le _
      · exact h64 y hy
    walk_at "gg"
    refine ⟨l, Txt.split (txt ws) " ", rfl, upd_same, ?_, hw, fun r H2 hr2 s2 => ?_⟩
    · have := split_len (txt ws)
      omega
    · have s3 := s1.trans s2
      rcases hr2.nat with rfl | ⟨i, rfl⟩
      · walk_at "gg"
        refine g_iteP rfl ?_
        walk_at "gg"
        exact ⟨txt ws, rfl, by omega, txt_asc hok, hr2, fun H' s4 => q H' (s3.trans s4)⟩
      · walk_at "gg"
        refine g_iteM (by omega) ?_
        walk_at "gg"
        exact ⟨txt ws, i, rfl, by omega, hr2, fun H' s4 => q H' (s3.trans s4)⟩
end
end My
namespace NumT
open PySem PySem.NumText L2 TL PyProof.Rows DeqA
theorem natOf_snoc (l : List Nat) (c : Nat) : natOf (l ++ [c]) = natOf l * 10 + (c - 48) := by
  unfold natOf
  rw [List.foldl_append]
  rfl
theorem numL_nat (n : Nat) : natOf (numL n) = n := by
  induction n using Nat.strongRecOn with
  | ind n ih =>
    by_cases h : n < 10
    · rw [numL_lt h]
      show 0 * 10 + (48 + n - 48) = n
      omega
    · rw [numL_step (by omega), natOf_snoc, ih (n / 10) (by omega)]
      omega
theorem numL_all (n : Nat) : (numL n).all isD = true := by
  rw [List.all_eq_true]
  intro c hc
  have := numL_digits n c hc
  exact isD_iff.mpr (by omega)
theorem numL_head (n : Nat) (h : 0 < n) : (numL n).head? ≠ some 48 := by
  induction n using Nat.strongRecOn with
  | ind n ih =>
    by_cases h : n < 10
    · rw [numL_lt h]
      intro e
      have := Option.some.inj e
      omega
    · rw [numL_step (by omega)]
      have := ih (n / 10) (by omega) (by omega)
      cases e : numL (n / 10) with
      | nil => exact absurd e (numL_ne _)
      | cons a r =>
        rw [e] at this
        exact this
theorem numL_zero : numL 0 = [48] := numL_lt (by decide)
theorem numL_digW (n : Nat) : digW (numL n) = true := by
  unfold digW
  rw [numL_all]
  have : (numL n).isEmpty = false := by
    cases e : numL n with
    | nil => exact absurd e (numL_ne n)
    | cons _ _ => rfl
  rw [this]
  rcases Nat.eq_zero_or_pos n with rfl | hp
  · rw [numL_zero]
    rfl
  · have := numL_head n hp
    simp [this]
theorem ofS_tl (s : String) : tl (Str.ofString s) = s.toList.map Char.toNat := by
  show (Str.ofString s).cps.toList = _
  rw [Str.ofString_eq_toList]
/-- the signs of an integer -/
def intL (i : Int) : List Nat := if i < 0 then 45 :: numL i.natAbs else numL i.natAbs
theorem tl_int (i : Int) : tl (Str.ofString (toString i)) = intL i := by
  unfold intL
  cases i with
  | ofNat n =>
    rw [if_neg (show ¬ Int.ofNat n < 0 from Int.not_lt.mpr (Int.natCast_nonneg n))]
    exact tl_num n
  | negSucc n =>
    rw [if_pos (by omega)]
    have e : toString (Int.negSucc n) = "-" ++ toString (n + 1) := rfl
    rw [e, ofS_tl, String.toList_append, List.map_append]
    have e2 := tl_num (n + 1)
    rw [ofS_tl] at e2
    have e3 : toString (((n + 1 : Nat) : Int)) = toString (n + 1) := rfl
    rw [e3] at e2
    rw [e2]
    rfl
theorem intL_wh (i : Int) : whW (intL i) = true ∧ wval (intL i) = i := by
  unfold intL
  by_cases h : i < 0
  · rw [if_pos h]
    refine ⟨?_, ?_⟩
    · show (numL i.natAbs != [48] && digW (numL i.natAbs)) = true
      rw [numL_digW, Bool.and_true, bne_iff_ne]
      intro e
      have := numL_nat i.natAbs
      rw [e] at this
      have z : natOf [48] = 0 := rfl
      omega
    · show -(natOf (numL i.natAbs) : Int) = i
      rw [numL_nat]
      omega
  · rw [if_neg h]
    have hd := numL_digW i.natAbs
    have hn : ∀ r, numL i.natAbs ≠ 45 :: r := fun r e => by
      rw [e, digW_neg] at hd
      cases hd
    refine ⟨?_, ?_⟩
    · unfold whW
      split
      · rename_i r e
        exact absurd e (hn r)
      · exact hd
    · unfold wval
      split
      · rename_i r e
        exact absurd e (hn r)
      · rw [numL_nat]
        omega
theorem intL_len {i : Int} {k : Nat} (hk : 0 < k) (h : i.natAbs < 10 ^ k) : (intL i).length ≤ k + 1 := by
  have := numL_len hk h
  unfold intL
  split
  · rw [List.length_cons]
    omega
  · omega
theorem intL_mem {i : Int} {c : Nat} (h : c ∈ intL i) : c = 45 ∨ (48 ≤ c ∧ c ≤ 57) := by
  unfold intL at h
  split at h
  · rcases List.mem_cons.mp h with h | h
    · exact .inl h
    · have := numL_digits _ c h
      exact .inr (by omega)
  · have := numL_digits _ c h
    exact .inr (by omega)
end NumT
namespace My
open PySem PySem.Spec PyProof.Rows L2 He He5 Go NumT RatA TL TxtA DeqA
local macro_rules | `(tactic| walk_at "gv") => `(tactic| first
  | with_reducible refine g_v0 ?_ | with_reducible refine g_v1 ?_ | with_reducible refine g_v2 ?_ | with_reducible refine g_v3 ?_ | with_reducible refine g_v4 ?_ | with_reducible refine g_v5 ?_
  | with_reducible refine g_v6 ?_ | with_reducible refine g_v7 ?_ | with_reducible refine g_v8 ?_ | with_reducible refine g_v9 ?_ | with_reducible refine g_v10 ?_ | with_reducible refine g_v11 ?_ | with_reducible refine g_v12 ?_)
local macro_rules | `(tactic| walk_at "gn") => `(tactic| first
  | with_reducible refine g_n0 ?_ | with_reducible refine g_n1 ?_ | with_reducible refine g_n2 ?_ | with_reducible refine g_n3 ?_ | with_reducible refine g_n4 ?_ | with_reducible refine g_n5 ?_
  | with_reducible refine g_n6 ?_ | with_reducible refine g_n7 ?_ | with_reducible refine g_n8 ?_ | with_reducible refine g_n9 ?_ | with_reducible refine g_n10 ?_ | with_reducible refine g_n11 ?_ | with_reducible refine g_n12 ?_)
local macro_rules | `(tactic| walk_at "gs") => `(tactic| first
  | with_reducible refine g_asg ?_ | with_reducible refine g_ret ?_ | with_reducible refine g_if ?_ | with_reducible refine g_drop ?_ | with_reducible refine g_next ?_
  | with_reducible refine g_retN ?_ | with_reducible refine g_brk ?_ | with_reducible refine g_cont ?_ | with_reducible refine g_forA ?_ | with_reducible refine g_sfld ?_)
local macro_rules | `(tactic| walk_at "ge") => `(tactic| first
  | with_reducible refine g_c ?_ | with_reducible refine g_op ?_ | with_reducible refine g_test ?_ | with_reducible refine g_bl ?_ | with_reducible refine g_tB ?_ | with_reducible refine g_not ?_
  | with_reducible refine g_and ?_ | with_reducible refine g_or ?_ | with_reducible refine g_notV ?_ | with_reducible refine g_andV ?_ | with_reducible refine g_orV ?_ | with_reducible refine g_ifE ?_
  | with_reducible refine g_un ?_ | with_reducible refine g_chain ?_ | with_reducible refine g_nil ?_ | with_reducible refine g_cons ?_ | with_reducible refine g_tup ?_ | with_reducible refine g_lst ?_
  | with_reducible refine g_cb ?_ | with_reducible refine g_call ?_ | with_reducible refine g_cmeth ?_ | with_reducible refine g_make ?_ | with_reducible refine g_noPart ?_ | with_reducible refine g_part ?_
  | with_reducible refine g_partI ?_ | with_reducible refine g_sl ?_ | with_reducible refine g_m1 ?_ | with_reducible refine g_m0 ?_ | with_reducible refine g_isS ?_ | with_reducible refine g_gsub ?_
  | with_reducible refine g_gcons ?_ | with_reducible refine g_gnil ?_ | with_reducible refine g_bm ?_ | with_reducible refine g_bm0 ?_ | with_reducible refine g_mk ?_ | with_reducible refine g_lc ?_ | with_reducible refine g_fld ?_ | with_reducible refine g_yes ?_)
local macro_rules | `(tactic| walk_at "go_") => `(tactic| first
  | with_reducible refine g_addI ?_ | with_reducible refine g_subI ?_ | with_reducible refine g_ltI ?_ | with_reducible refine g_leI ?_ | with_reducible refine g_gtI ?_ | with_reducible refine g_geI ?_
  | with_reducible refine g_eqI ?_ | with_reducible refine g_eqS ?_ | with_reducible refine g_neI ?_ | with_reducible refine g_neS ?_
  | with_reducible refine g_isNn ?_ | with_reducible refine g_isNi ?_ | with_reducible refine g_isNs ?_ | with_reducible refine g_isNr ?_
  | with_reducible refine g_notNn ?_ | with_reducible refine g_notNi ?_ | with_reducible refine g_notNs ?_ | with_reducible refine g_notNr ?_ | with_reducible refine g_neg ?_
  | with_reducible refine g_inS ?_ | with_reducible refine g_niS ?_ | with_reducible refine g_iteT ?_ | with_reducible refine g_iteF ?_ | with_reducible refine g_iteNT ?_ | with_reducible refine g_iteNF ?_
  | with_reducible refine g_intI ?_ | with_reducible refine g_intB ?_ | with_reducible refine g_gcd ?_ | with_reducible refine g_max2 ?_ | with_reducible refine g_min2 ?_ | with_reducible refine g_stw ?_ | with_reducible refine g_abs ?_
  | with_reducible refine g_iStr ?_ | with_reducible refine g_exS ?_ | with_reducible refine g_iList ?_ | with_reducible refine g_iTup ?_ | with_reducible refine g_iR1 ?_ | with_reducible refine g_iR2 ?_ | with_reducible refine g_exR1 (by omega) (by omega) ?_ | with_reducible refine g_exR2 (by omega) ?_)
local macro_rules | `(tactic| walk_at "go1") => `(tactic| first | walk_at "gs" | with_reducible refine g_seq ?_ | walk_at "gv" | walk_at "ge" | walk_at "gn" | walk_at "go_")
local macro_rules | `(tactic| walk_at "go") => `(tactic| repeat walk_at "go1")
local macro_rules | `(tactic| walk_at "gl") => `(tactic| first
  | with_reducible refine g_lenS (by assumption) ?_ | with_reducible refine g_lenL (by assumption) ?_ | with_reducible refine g_lenT (by assumption) ?_ | with_reducible refine g_exL (by assumption) ?_ | with_reducible refine g_exT (by assumption) ?_)
local macro_rules | `(tactic| walk_at "gw") => `(tactic| repeat (first | walk_at "gs" | walk_at "gv" | walk_at "ge" | walk_at "gn" | walk_at "go_" | walk_at "gl"))
local macro_rules | `(tactic| walk_at "go2") => `(tactic| first | walk_at "go1" | walk_at "gl")
local macro_rules | `(tactic| walk_at "gg") => `(tactic| repeat walk_at "go2")

/-! ### the pot -/
def PotAt (H : Hp) (p l : Addr) : Prop := ∃ (cs : List Nat) (i v : Nat), H p = some (.lst [.ref l, .int (i : Int), .int (v : Int)]) ∧ H l = some (.lst (cs.map fun c : Nat => V.int (c : Int))) ∧ l ≠ p ∧ i ≤ cs.length ∧ cs.length ≤ 64
theorem But.same {p : Addr} {H H1 : Hp} (s : Same H H1) : But p H H1 := fun b o e _ => s b o e
theorem But.trans {p : Addr} {H H1 H2 : Hp} (a : But p H H1) (b : But p H1 H2) : But p H H2 := fun c o e ne => b c o (a c o e ne) ne
theorem PotAt.same {p l : Addr} {H H1 : Hp} (h : PotAt H p l) (s : Same H H1) : PotAt H1 p l := by
  obtain ⟨cs, i, v, h1, h2, h3⟩ := h
  exact ⟨cs, i, v, s _ _ h1, s _ _ h2, h3⟩
theorem PotAt.ne {p l D : Addr} {H : Hp} (h : PotAt H p l) (hD : H D = none) : p ≠ D ∧ l ≠ D := by
  obtain ⟨cs, i, v, h1, h2, h3⟩ := h
  exact ⟨ne_of_none h1 hD, ne_of_none h2 hD⟩
/-- the pot was drawn from, nothing else of H was touched -/
structure Pt (p l : Addr) (H H' : Hp) : Prop where
  but : But p H H'
  pot : PotAt H' p l
theorem Pt.refl {p l : Addr} {H : Hp} (h : PotAt H p l) : Pt p l H H := ⟨fun b o e _ => e, h⟩
theorem Pt.trans {p l : Addr} {H H1 H2 : Hp} (a : Pt p l H H1) (b : Pt p l H1 H2) : Pt p l H H2 := ⟨a.but.trans b.but, b.pot⟩
theorem Pt.same {p l : Addr} {H H1 H2 : Hp} (a : Pt p l H H1) (s : Same H1 H2) : Pt p l H H2 := ⟨a.but.trans (.same s), a.pot.same s⟩
theorem Pt.new {p l q : Addr} {H H1 : Hp} {o : HO} (a : Pt p l H H1) (h : H1 q = none) : Pt p l H (upd H1 q o) := a.same (same_new h o)
/-- what was new to H may be put -/
theorem pt_put {p l D : Addr} {H H1 : Hp} {o : HO} (h : PotAt H p l) (a : Pt p l H H1) (hD : H D = none) : Pt p l H (upd H1 D o) := by
  obtain ⟨n1, n2⟩ := h.ne hD
  refine ⟨fun b u e nb => ?_, ?_⟩
  · rw [upd_ne (ne_of_none e hD)]
    exact a.but b u e nb
  · obtain ⟨cs, i, v, h1, h2, h3⟩ := a.pot
    exact ⟨cs, i, v, by rw [upd_ne n1]; exact h1, by rw [upd_ne n2]; exact h2, h3⟩
/-- what stood, and is not the pot, stands -/
theorem Pt.at {p l q : Addr} {H H1 : Hp} {o : HO} (a : Pt p l H H1) (h : H q = some o) (ne : q ≠ p) : H1 q = some o := a.but q o h ne
section
variable {P : Program} {w : World} {K : PySem.W.Frag} {mg : Str → Option Value} {base : Heap}
def spPot (K : PySem.W.Frag) : Sp := fun vs H Q _ => ∃ (ls : Addr) (xs : List Int), vs = [.ref ls] ∧ SqL K H ls (xs.map V.int) ∧ ∀ p l H', Same H H' → H p = none → PotAt H' p l → Q (.ref p) H'
theorem cut63 {xs : List Int} : cutV (xs.map V.int) none (some 63) = (xs.take 63).map V.int := by
  unfold cutV
  rw [show HT.sIx (xs.map V.int).length 0 none = 0 from rfl, show HT.sIx (xs.map V.int).length (xs.map V.int).length (some 63) = min 63 (xs.map V.int).length from HT.sIx_nat _ _ 63, List.drop_zero, Nat.sub_zero, List.map_take]
  by_cases c : 63 ≤ (xs.map V.int).length
  · rw [Nat.min_eq_left c]
  · rw [Nat.min_eq_right (by omega), List.take_of_length_le (Nat.le_refl _), List.take_of_length_le (by omega)]
theorem ok__law_pot (T : Tx fxL fnL K mg) : FnR P w K mg base (L2.CX P w) 1 (ga K "_law_pot") (spPot K) := by
  refine fun_ok (F__law_pot T) sc__law_pot (fun _ _ _ _ _ _ us hl => match us, hl with | [_], _ => rfl) ?_ ?_
  · rintro vs H Q E ⟨ls, xs, rfl, _⟩
    rfl
  · rintro cdv A outer s H vs Q E hr ⟨ls, xs, rfl, hls, q⟩
    refine ⟨_, (pss_one (ps_ret (pe_lst (pa_cons (pe_lc (own := [("cell", 1)]) (by rfl) sc__law_pot.nd (pi_list (pe_slice o_sl (pv 0) po_none (po_some pe_int))) (blkOk_by (N := ["script", "cell"]) (sc := defScope s__law_pot) (by decide +kernel)) (fun _ _ _ _ _ => (pg_name (i := 1) sc__law_pot.nd rfl (Or.inl rfl))) (fun _ _ _ _ _ => pts_nil) (fun _ _ _ _ _ => (pe_callB b_abs (by rfl) (z_abs T) (by decide +kernel) (pa_cons (pv 1) pa_nil)))) (pa_cons pe_int (pa_cons pe_int pa_nil)))))), ?_⟩
    refine g_start (σ := [some (.ref ls), none]) rfl ?_
    walk_at "gg"
    refine .inl ⟨ls, _, rfl, hls, fun l1 hl1 => ?_⟩
    rw [cut63]
    have s1 := same_new hl1 (.lst ((xs.take 63).map V.int))
    walk_at "gg"
    refine g_exL (.inl (.inl upd_same)) ?_
    intro D hD
    refine c_list (xs := (xs.take 63).map V.int) (fun i H' => Same (upd H l1 (.lst ((xs.take 63).map V.int))) H' ∧ H' D = some (.lst (((xs.take 63).take i).map fun x => V.int ((x.natAbs : Nat) : Int)))) ⟨same_new hD _, upd_same⟩ ?_ ?_ ?_
    · rintro i H' hi ⟨sm, _⟩
      exact .inl (.inl (sm _ _ upd_same))
    · rintro i v H' hv ⟨sm, hl⟩
      rw [List.getElem?_map] at hv
      obtain ⟨x, hx, rfl⟩ : ∃ x, (xs.take 63)[i]? = some x ∧ V.int x = v := by
        cases e : (xs.take 63)[i]? with
        | none => rw [e] at hv; cases hv
        | some x => rw [e] at hv; exact ⟨x, rfl, Option.some.inj hv⟩
      refine g_cell (σ := [some (.ref ls), none]) rfl ?_
      walk_at "gg"
      refine ⟨rfl, ?_⟩
      walk_at "gg"
      have hi : i < (xs.take 63).length := (List.getElem?_eq_some_iff.mp hx).1
      have l63 : (xs.take 63).length ≤ 63 := by rw [List.length_take]; omega
      refine ⟨_, hl, ?_, same_put sm hD, ?_⟩
      · rw [List.length_map, List.length_take, sizeLine_eq]
        omega
      · rw [upd_same, show (if x < 0 then -x else x) = ((x.natAbs : Nat) : Int) by split <;> omega]
        have e : (xs.take 63).take (i + 1) = (xs.take 63).take i ++ [x] := by rw [List.take_succ, hx]; rfl
        rw [e, List.map_append]
        rfl
    · rintro H' ⟨sm, hl⟩
      rw [List.length_map, List.take_length] at hl
      have s2 := s1.trans sm
      walk_at "gg"
      refine ⟨by rw [sizeLine_eq]; show 3 ≤ _; decide, fun p hp => ?_⟩
      have nD : D ≠ p := ne_of_none hl hp
      refine q p D _ (s2.trans (same_new hp _)) (s2.free hp) ⟨(xs.take 63).map Int.natAbs, 0, 0, upd_same, ?_, nD, Nat.zero_le _, ?_⟩
      · rw [upd_ne nD, hl, List.map_map]
        rfl
      · rw [List.length_map, List.length_take]
        omega
def spDigit : Sp := fun vs H Q _ => ∃ (p l : Addr) (m : Nat), vs = [.ref p, .int (m : Int)] ∧ PotAt H p l ∧ 0 < m ∧ m.log2 < 9000 ∧ ∀ (r : Nat) H', r < m → Pt p l H H' → Q (.int (r : Int)) H'
theorem ok__law_digit (T : Tx fxL fnL K mg) : FnR P w K mg base (L2.CX P w) 1 (ga K "_law_digit") spDigit := by
  refine fun_ok (F__law_digit T) sc__law_digit (fun _ _ _ _ _ _ us hl => match us, hl with | [_, _], _ => rfl) ?_ ?_
  · rintro vs H Q E ⟨p, l, m, rfl, _⟩
    rfl
  · rintro cdv A outer s H vs Q E hr ⟨p, l, m, rfl, ⟨cs, i, v, hp, hl, nlp, hi, h64⟩, hm, hlog, q⟩
    refine ⟨_, (pss_cons (ps_if (PW.pt (pw_and (pt_cmpR (o_eq hr.units) (pe_ix ix_seq (pv 0) pe_int (fun _ _ => rfl)) pe_int (nomark _)) (pw_and1 (pt_cmpR o_lt (pe_ix ix_seq (pv 0) pe_int (fun _ _ => rfl)) (pe_callB b_len (by rfl) (z_len T) (by decide +kernel) (pa_cons (pe_ix ix_seq (pv 0) pe_int (fun _ _ => rfl)) pa_nil)) (nomark _))))) (pss_cons (ps_asg (pe_ix ix_seq (pe_ix ix_seq (pv 0) pe_int (fun _ _ => rfl)) (pe_ix ix_seq (pv 0) pe_int (fun _ _ => rfl)) (fun _ _ => rfl)) (pg_sub (pv 0) pe_int set_list))
 (pss_one (ps_asg (pe_op o_add (pe_ix ix_seq (pv 0) pe_int (fun _ _ => rfl)) pe_int) (pg_sub (pv 0) pe_int set_list)))) pss_nil)
 (pss_cons (ps_set (i := 2) sc__law_digit.nd rfl (Or.inl rfl) (pe_op o_mod (pe_callTy (c_int (nd_int T)) (by rfl) (z_int T) (by decide +kernel) (pa_cons (pe_ix ix_seq (pv 0) pe_int (fun _ _ => rfl)) pa_nil)) (pv 1)))
 (pss_cons (ps_asg (pe_op o_fdv (pe_ix ix_seq (pv 0) pe_int (fun _ _ => rfl)) (pv 1)) (pg_sub (pv 0) pe_int set_list))
 (pss_one (ps_ret (pv 2)))))), ?_⟩
    refine g_start (σ := [some (.ref p), some (.int (m : Int)), none]) rfl ?_
    refine g_seqK (fun σ' H' => σ' = [some (.ref p), some (.int (m : Int)), none] ∧ But p H H' ∧ ∃ (i v : Nat), H' p = some (.lst [.ref l, .int (i : Int), .int (v : Int)]) ∧ i ≤ cs.length) ?_ ?_
    · rintro σ' H1 ⟨rfl, b1, i1, v1, hp1, hi1⟩
      have hl1 := b1 _ _ hl nlp
      walk_at "gg"
      refine g_ixL (.inl (.inl hp1)) (show atI [V.ref l, V.int (i1 : Int), V.int (v1 : Int)] 2 = some (.int (v1 : Int)) from rfl) ?_
      walk_at "gg"
      refine g_modI (by omega) ?_
      walk_at "gg"
      refine g_ixL (.inl (.inl hp1)) (show atI [V.ref l, V.int (i1 : Int), V.int (v1 : Int)] 2 = some (.int (v1 : Int)) from rfl) ?_
      walk_at "gg"
      refine g_fdvI (by omega) (by simpa using hlog) ?_
      walk_at "gg"
      refine g_setL (j := 2) hp1 rfl ?_
      walk_at "gg"
      rw [show ((v1 : Int) % (m : Int)) = ((v1 % m : Nat) : Int) from (Int.natCast_emod v1 m).symm]
      refine q _ _ (Nat.mod_lt _ hm) ⟨fun c o e ne => by rw [upd_ne ne]; exact b1 c o e ne, cs, i1, v1 / m, ?_, ?_, nlp, hi1, h64⟩
      · rw [upd_same, Int.natCast_ediv]
        rfl
      · rw [upd_ne nlp]
        exact hl1
    · intro N hN
      walk_at "gg"
      refine g_ixL (.inl (.inl hp)) (show atI [V.ref l, V.int (i : Int), V.int (v : Int)] 2 = some (.int (v : Int)) from rfl) ?_
      walk_at "gg"
      refine g_ite (fun c => ?_) (fun c => ?_)
      · walk_at "gg"
        refine g_ixL (.inl (.inl hp)) (show atI [V.ref l, V.int (i : Int), V.int (v : Int)] 1 = some (.int (i : Int)) from rfl) ?_
        walk_at "gg"
        refine g_ixL (.inl (.inl hp)) (show atI [V.ref l, V.int (i : Int), V.int (v : Int)] 0 = some (.ref l) from rfl) ?_
        walk_at "gg"
        refine g_lenL (.inl (.inl hl)) ?_
        rw [List.length_map]
        walk_at "gg"
        refine g_ite (fun c2 => ?_) (fun c2 => ?_)
        · have hi2 : i < cs.length := by omega
          walk_at "gg"
          refine g_ixL (.inl (.inl hp)) (show atI [V.ref l, V.int (i : Int), V.int (v : Int)] 0 = some (.ref l) from rfl) ?_
          walk_at "gg"
          refine g_ixL (.inl (.inl hp)) (show atI [V.ref l, V.int (i : Int), V.int (v : Int)] 1 = some (.int (i : Int)) from rfl) ?_
          walk_at "gg"
          refine g_ixL (.inl (.inl hl)) (show atI (cs.map fun c : Nat => V.int (c : Int)) (i : Int) = some (.int ((cs[i] : Nat) : Int)) from atI_nat (by rw [List.getElem?_map, List.getElem?_eq_getElem hi2]; rfl)) ?_
          walk_at "gg"
          refine g_setL (j := 2) hp rfl ?_
          walk_at "gg"
          refine g_ixL (.inl (.inl upd_same)) (show atI [V.ref l, V.int (i : Int), V.int ((cs[i] : Nat) : Int)] 1 = some (.int (i : Int)) from rfl) ?_
          walk_at "gg"
          refine g_setL (j := 1) upd_same rfl ?_
          exact hN _ _ ⟨rfl, fun c o e ne => by rw [upd_ne ne, upd_ne ne]; exact e, i + 1, cs[i], by rw [upd_same]; rfl, hi2⟩
        · walk_at "gg"
          exact hN _ _ ⟨rfl, fun c o e ne => e, i, v, hp, hi⟩
      · walk_at "gg"
        exact hN _ _ ⟨rfl, fun c o e ne => e, i, v, hp, hi⟩
/-! ### names and numbers -/
def nameL : List Str := ["a", "b7", "energy", "0", "least", "12", "zz9z", "q", "cost", "longname", "10", "pull"]
structure NameOk (x : Str) : Prop where
  lab : isLab x = true
  wok : Wok x
theorem lab_wok {x : Str} (h : isLab x = true) : Wok x := by
  unfold isLab at h
  rw [Bool.and_eq_true, Bool.and_eq_true, decide_eq_true_eq, decide_eq_true_eq, List.all_eq_true] at h
  obtain ⟨_, h2, h3⟩ := h
  have hc : ∀ c ∈ tl x, c ≠ 32 ∧ c < 0x110000 := fun c hc => by
    have := h3 c hc
    unfold labC at this
    rw [Bool.or_eq_true, decide_eq_true_eq, decide_eq_true_eq] at this
    rcases this with m | m
    · exact (show ∀ c ∈ letL, c ≠ 32 ∧ c < 0x110000 by decide +kernel) c m
    · exact (show ∀ c ∈ digL, c ≠ 32 ∧ c < 0x110000 by decide +kernel) c m
  exact ⟨by omega, asc_iff.mpr fun c h => (hc c h).2, fun h => (hc 32 h).1 rfl⟩
theorem NameOk.mk' {x : Str} (h : isLab x = true) : NameOk x := ⟨h, lab_wok h⟩
theorem nameL_ok : ∀ x ∈ nameL, isLab x = true := by decide +kernel
theorem joinL_nil : ∀ cs : List Nat, joinL [] (cs.map fun c => [c]) = cs
  | [] => rfl
  | [c] => rfl
  | c :: d :: r => by
    show [c] ++ ([] ++ joinL [] ((d :: r).map fun c => [c])) = c :: d :: r
    rw [joinL_nil (d :: r)]
    rfl
theorem empty_tl : tl ("" : Str) = [] := rfl
theorem join_signs (cs : List Nat) : tl (Txt.join ("" : Str) (cs.map fun c => (⟨#[c]⟩ : Str))) = cs := by
  rw [join_eq, tl_join, empty_tl, List.map_map]
  exact joinL_nil cs
def spName : Sp := fun vs H Q _ => ∃ (p l : Addr) (k : Nat), vs = [.ref p, .int (k : Int)] ∧ PotAt H p l ∧ k ≤ 1000 ∧ ∀ x H', NameOk x → Pt p l H H' → Q (.str x) H'
theorem mulW {i j : Int} (h : i.natAbs < 2 ^ 300000) (h2 : j.natAbs < 2 ^ 300000) : CMulW i j := by
  have l : ∀ n : Nat, n < 2 ^ 300000 → n.log2 < 300001 := fun n hn => by
    rcases Nat.eq_zero_or_pos n with rfl | hp
    · rw [Nat.log2_zero]; omega
    · have := (Nat.log2_lt (by omega)).mpr hn
      omega
  unfold CMulW
  have := l _ h
  have := l _ h2
  omega
theorem mulS {i j : Int} (h : i.natAbs ≤ 100000) (h2 : j.natAbs ≤ 100000) : CMulW i j := by
  have l : ∀ n : Nat, n ≤ 100000 → n.log2 < 20 := fun n hn => by
    rcases Nat.eq_zero_or_pos n with rfl | hp
    · rw [Nat.log2_zero]; omega
    · exact (Nat.log2_lt (by omega)).mpr (by omega)
  unfold CMulW
  have := l _ h
  have := l _ h2
  omega
theorem ok__law_name (T : Tx fxL fnL K mg) : FnR P w K mg base (L2.CX P w) 2 (ga K "_law_name") spName := by
  refine fun_ok (F__law_name T) sc__law_name (fun _ _ _ _ _ _ us hl => match us, hl with | [_, _], _ => rfl) ?_ ?_
  · rintro vs H Q E ⟨p, l, k, rfl, _⟩
    rfl
  · rintro cdv A outer s H vs Q E hr ⟨p, l, k, rfl, hp, hk, q⟩
    refine ⟨_, (pss_cons (ps_set (i := 2) sc__law_name.nd rfl (Or.inl rfl) (pe_op o_mod (pe_callTy (c_int (nd_int T)) (by rfl) (z_int T) (by decide +kernel) (pa_cons (pe_op o_add (pe_callF ((ok__law_digit T).mono (by decide)) hr (takes_of rfl rfl rfl rfl) (by rfl) (gm__law_digit T) (k__law_digit T) (pa_cons (pv 0) (pa_cons pe_int pa_nil))) (pe_op o_mul pe_int (pv 1))) pa_nil)) pe_int))
 (pss_cons (ps_if (pt_cmpR (o_eq hr.units) (pv 2) pe_int (nomark _)) (pss_cons (ps_set (i := 3) sc__law_name.nd rfl (Or.inr rfl) pe_str)
 (pss_cons (ps_set (i := 4) sc__law_name.nd rfl (Or.inl rfl) (pe_op o_add pe_int (pe_callF ((ok__law_digit T).mono (by decide)) hr (takes_of rfl rfl rfl rfl) (by rfl) (gm__law_digit T) (k__law_digit T) (pa_cons (pv 0) (pa_cons pe_int pa_nil)))))
 (pss_one (ps_ret (pe_m1 PySem.F.slot_str_join PySem.F.type_str_join m_join pe_str (pe_lc (own := [("j", 6)]) (by rfl) sc__law_name.nd (pi_range1 (by rfl) (z_range T) (pa_cons (pv 4) pa_nil)) (blkOk_by (N := ["pot", "k", "kind", "signs", "size", "menu", "j"]) (sc := defScope s__law_name) (by decide +kernel)) (fun _ _ _ _ _ => (pg_name (i := 6) sc__law_name.nd rfl (Or.inl rfl))) (fun _ _ _ _ _ => pts_nil) (fun _ _ _ _ _ => (pe_ix (ix_seqK K) (pv 3) (pe_callF ((ok__law_digit T).mono (by decide)) hr takes0 (by rfl) (gm__law_digit T) (k__law_digit T) (pa_cons (pv 0) (pa_cons pe_int pa_nil))) (fun _ _ => rfl))))))))) pss_nil)
 (pss_cons (ps_set (i := 5) sc__law_name.nd rfl (Or.inl rfl) (pe_lst (pa_cons pe_str (pa_cons pe_str (pa_cons pe_str (pa_cons pe_str (pa_cons pe_str (pa_cons pe_str (pa_cons pe_str (pa_cons pe_str (pa_cons pe_str (pa_cons pe_str (pa_cons pe_str (pa_cons pe_str pa_nil))))))))))))))
 (pss_one (ps_ret (pe_ix ix_seq (pv 5) (pv 2) (fun _ _ => rfl))))))), ?_⟩
    refine g_start (σ := [some (.ref p), some (.int (k : Int)), none, none, none, none, none]) rfl ?_
    walk_at "gg"
    refine ⟨p, l, 13, rfl, hp, by decide, by decide, fun r1 H1 h1 pt1 => ?_⟩
    walk_at "gg"
    refine g_mulI (mulS (by decide) (by omega)) ?_
    walk_at "gg"
    refine g_modI (by decide) ?_
    obtain ⟨kd, hkd, hkd2⟩ : ∃ kd : Nat, ((r1 : Int) + 4 * (k : Int)) % 13 = (kd : Int) ∧ kd < 13 := ⟨(((r1 : Int) + 4 * (k : Int)) % 13).toNat, by omega, by omega⟩
    rw [hkd]
    walk_at "gg"
    refine g_ite (fun c => ?_) (fun c => ?_)
    · walk_at "gg"
      refine ⟨p, l, 8, rfl, pt1.pot, by decide, by decide, fun r2 H2 h2 pt2 => ?_⟩
      have pt3 := pt1.trans pt2
      walk_at "gg"
      intro D hD
      rw [show (1 + (r2 : Int)).toNat = r2 + 1 by omega]
      have hsg : ("abcdefghijklmnopqrstuvwxyz0123456789" : Str).cps.toList = letL ++ digL := by decide +kernel
      have hDp : D ≠ p := fun e => (pt3.pot.ne hD).1 e.symm
      refine c_range (fun i H' => ∃ cs : List Nat, cs.length = i ∧ (∀ c ∈ cs, labC c = true) ∧ H' D = some (.lst (cs.map fun c => V.str ⟨#[c]⟩)) ∧ Pt p l H2 H') ⟨[], rfl, by simp, upd_same, pt_put pt3.pot (Pt.refl pt3.pot) hD⟩ ?_ ?_
      · rintro i H' hi ⟨cs, hcs, hall, hl, pt⟩
        refine g_cell (σ := [some (.ref p), some (.int (k : Int)), some (.int (kd : Int)), some (.str "abcdefghijklmnopqrstuvwxyz0123456789"), some (.int (1 + (r2 : Int))), none, none]) rfl ?_
        walk_at "gg"
        refine ⟨rfl, ?_⟩
        walk_at "gg"
        refine ⟨p, l, 36, rfl, pt.pot, by decide, by decide, fun r H4 hr4 pt4 => ?_⟩
        have hlen : r < (letL ++ digL).length := by
          rw [show (letL ++ digL).length = 36 by decide +kernel]
          exact hr4
        walk_at "gg"
        refine g_ixS (k := (letL ++ digL)[r]) (by rw [sizeLine_eq]; decide +kernel) (by rw [hsg]; exact atI_nat (List.getElem?_eq_getElem hlen)) ?_
        refine ⟨_, pt4.at hl hDp, by rw [List.length_map, hcs, sizeLine_eq]; omega, cs ++ [(letL ++ digL)[r]], by rw [List.length_append, hcs]; rfl, fun c hc => ?_, by rw [upd_same, List.map_append]; rfl, pt_put pt3.pot (pt.trans pt4) hD⟩
        rcases List.mem_append.mp hc with hc | hc
        · exact hall c hc
        · rw [List.mem_singleton.mp hc]
          have := List.getElem_mem hlen
          unfold labC
          rcases List.mem_append.mp this with m | m
          · rw [decide_eq_true m]; rfl
          · rw [decide_eq_true m, Bool.or_true]
      · rintro H' ⟨cs, hcs, hall, hl, pt⟩
        have hx : tl (Txt.join ("" : Str) (cs.map fun c => (⟨#[c]⟩ : Str))) = cs := join_signs cs
        have hmm : cs.map (fun c => V.str ⟨#[c]⟩) = (cs.map fun c => (⟨#[c]⟩ : Str)).map V.str := by rw [List.map_map]; rfl
        rw [hmm] at hl
        refine g_join (.inl (.inl hl)) ?_ ?_
        · have := sum_le (cs.map fun c => (⟨#[c]⟩ : Str)) 1 (fun y hy => by
            obtain ⟨c, _, rfl⟩ := List.mem_map.mp hy
            exact Nat.le_refl _)
          rw [List.length_map, hcs] at this
          rw [List.length_map, hcs, show ("" : Str).length = 0 from rfl]
          omega
        · refine q _ _ (.mk' ?_) (pt3.trans pt)
          unfold isLab
          rw [len_tl, hx, hcs, decide_eq_true (by omega), decide_eq_true (by omega)]
          rw [show (Txt.join ("" : Str) (cs.map fun c => (⟨#[c]⟩ : Str))).cps.toList = cs from hx, List.all_eq_true.mpr hall]
          rfl
    · have hkl : kd < nameL.length := by show kd < 12; omega
      walk_at "gg"
      refine ⟨le_size (by show 12 ≤ 64; decide), fun m hm => ?_⟩
      walk_at "gg"
      refine g_ixL (xs := nameL.map V.str) (v := .str nameL[kd]) (.inl (.inl upd_same)) (atI_nat (by rw [List.getElem?_map, List.getElem?_eq_getElem hkl]; rfl)) ?_
      exact q _ _ (.mk' (nameL_ok _ (List.getElem_mem hkl))) (pt1.new hm)
end
end My
namespace My
open PySem PySem.Spec PyProof.Rows L2 He He5 Go NumT RatA TL TxtA DeqA
local macro_rules | `(tactic| walk_at "gv") => `(tactic| first
  | with_reducible refine g_v0 ?_ | with_reducible refine g_v1 ?_ | with_reducible refine g_v2 ?_ | with_reducible refine g_v3 ?_ | with_reducible refine g_v4 ?_ | with_reducible refine g_v5 ?_
  | with_reducible refine g_v6 ?_ | with_reducible refine g_v7 ?_ | with_reducible refine g_v8 ?_ | with_reducible refine g_v9 ?_ | with_reducible refine g_v10 ?_ | with_reducible refine g_v11 ?_ | with_reducible refine g_v12 ?_)
local macro_rules | `(tactic| walk_at "gn") => `(tactic| first
  | with_reducible refine g_n0 ?_ | with_reducible refine g_n1 ?_ | with_reducible refine g_n2 ?_ | with_reducible refine g_n3 ?_ | with_reducible refine g_n4 ?_ | with_reducible refine g_n5 ?_
  | with_reducible refine g_n6 ?_ | with_reducible refine g_n7 ?_ | with_reducible refine g_n8 ?_ | with_reducible refine g_n9 ?_ | with_reducible refine g_n10 ?_ | with_reducible refine g_n11 ?_ | with_reducible refine g_n12 ?_)
local macro_rules | `(tactic| walk_at "gs") => `(tactic| first
  | with_reducible refine g_asg ?_ | with_reducible refine g_ret ?_ | with_reducible refine g_if ?_ | with_reducible refine g_drop ?_ | with_reducible refine g_next ?_
  | with_reducible refine g_retN ?_ | with_reducible refine g_brk ?_ | with_reducible refine g_cont ?_ | with_reducible refine g_forA ?_ | with_reducible refine g_sfld ?_)
local macro_rules | `(tactic| walk_at "ge") => `(tactic| first
  | with_reducible refine g_c ?_ | with_reducible refine g_op ?_ | with_reducible refine g_test ?_ | with_reducible refine g_bl ?_ | with_reducible refine g_tB ?_ | with_reducible refine g_not ?_
  | with_reducible refine g_and ?_ | with_reducible refine g_or ?_ | with_reducible refine g_notV ?_ | with_reducible refine g_andV ?_ | with_reducible refine g_orV ?_ | with_reducible refine g_ifE ?_
  | with_reducible refine g_un ?_ | with_reducible refine g_chain ?_ | with_reducible refine g_nil ?_ | with_reducible refine g_cons ?_ | with_reducible refine g_tup ?_ | with_reducible refine g_lst ?_
  | with_reducible refine g_cb ?_ | with_reducible refine g_call ?_ | with_reducible refine g_cmeth ?_ | with_reducible refine g_make ?_ | with_reducible refine g_noPart ?_ | with_reducible refine g_part ?_
  | with_reducible refine g_partI ?_ | with_reducible refine g_sl ?_ | with_reducible refine g_m1 ?_ | with_reducible refine g_m0 ?_ | with_reducible refine g_isS ?_ | with_reducible refine g_gsub ?_
  | with_reducible refine g_gcons ?_ | with_reducible refine g_gnil ?_ | with_reducible refine g_bm ?_ | with_reducible refine g_bm0 ?_ | with_reducible refine g_mk ?_ | with_reducible refine g_lc ?_ | with_reducible refine g_fld ?_ | with_reducible refine g_yes ?_)
local macro_rules | `(tactic| walk_at "go_") => `(tactic| first
  | with_reducible refine g_addI ?_ | with_reducible refine g_subI ?_ | with_reducible refine g_ltI ?_ | with_reducible refine g_leI ?_ | with_reducible refine g_gtI ?_ | with_reducible refine g_geI ?_
  | with_reducible refine g_eqI ?_ | with_reducible refine g_eqS ?_ | with_reducible refine g_neI ?_ | with_reducible refine g_neS ?_
  | with_reducible refine g_isNn ?_ | with_reducible refine g_isNi ?_ | with_reducible refine g_isNs ?_ | with_reducible refine g_isNr ?_
  | with_reducible refine g_notNn ?_ | with_reducible refine g_notNi ?_ | with_reducible refine g_notNs ?_ | with_reducible refine g_notNr ?_ | with_reducible refine g_neg ?_
  | with_reducible refine g_inS ?_ | with_reducible refine g_niS ?_ | with_reducible refine g_iteT ?_ | with_reducible refine g_iteF ?_ | with_reducible refine g_iteNT ?_ | with_reducible refine g_iteNF ?_
  | with_reducible refine g_intI ?_ | with_reducible refine g_intB ?_ | with_reducible refine g_gcd ?_ | with_reducible refine g_max2 ?_ | with_reducible refine g_min2 ?_ | with_reducible refine g_stw ?_ | with_reducible refine g_abs ?_
  | with_reducible refine g_iStr ?_ | with_reducible refine g_exS ?_ | with_reducible refine g_iList ?_ | with_reducible refine g_iTup ?_ | with_reducible refine g_iR1 ?_ | with_reducible refine g_iR2 ?_ | with_reducible refine g_exR1 (by omega) (by omega) ?_ | with_reducible refine g_exR2 (by omega) ?_)
local macro_rules | `(tactic| walk_at "go1") => `(tactic| first | walk_at "gs" | with_reducible refine g_seq ?_ | walk_at "gv" | walk_at "ge" | walk_at "gn" | walk_at "go_")
local macro_rules | `(tactic| walk_at "go") => `(tactic| repeat walk_at "go1")
local macro_rules | `(tactic| walk_at "gl") => `(tactic| first
  | with_reducible refine g_lenS (by assumption) ?_ | with_reducible refine g_lenL (by assumption) ?_ | with_reducible refine g_lenT (by assumption) ?_ | with_reducible refine g_exL (by assumption) ?_ | with_reducible refine g_exT (by assumption) ?_)
local macro_rules | `(tactic| walk_at "gw") => `(tactic| repeat (first | walk_at "gs" | walk_at "gv" | walk_at "ge" | walk_at "gn" | walk_at "go_" | walk_at "gl"))
local macro_rules | `(tactic| walk_at "go2") => `(tactic| first | walk_at "go1" | walk_at "gl")
local macro_rules | `(tactic| walk_at "gg") => `(tactic| repeat walk_at "go2")

def intT (i : Int) : Str := Str.ofString (toString i)
theorem intT_tl (i : Int) : tl (intT i) = intL i := tl_int i
theorem intT_len {i : Int} {k : Nat} (hk : 0 < k) (h : i.natAbs < 10 ^ k) : (intT i).length ≤ k + 1 := by
  rw [len_tl, intT_tl]
  exact intL_len hk h
theorem num_ok {i : Int} (h : i.natAbs < 10 ^ 31) : okN (intT i) = true ∧ Wok (intT i) := by
  have l := intT_len (by decide) h
  refine ⟨?_, ⟨by omega, asc_iff.mpr fun c hc => ?_, fun hc => ?_⟩⟩
  · unfold okN
    rw [okW_t (by rw [← len_tl]; omega), intT_tl]
    exact (intL_wh i).1
  · rw [intT_tl] at hc
    rcases intL_mem hc with h | h <;> omega
  · rw [intT_tl] at hc
    rcases intL_mem hc with h | h <;> omega
theorem log_31 {n : Nat} (h : n < 10 ^ 31) : n.log2 < 1920 := by
  rcases Nat.eq_zero_or_pos n with rfl | hp
  · rw [Nat.log2_zero]; omega
  · exact (Nat.log2_lt (by omega)).mpr (Nat.lt_of_lt_of_le h (by decide +kernel))
/-- a fraction in lowest terms -/
theorem frac_ok {t : Int} {b : Nat} (hb : 0 < b) (hb2 : b < 10 ^ 12) (ht : t.natAbs < 10 ^ 24) :
    (b = Nat.gcd t.natAbs b → isR (intT (t / ((Nat.gcd t.natAbs b : Nat) : Int))) = true ∧ Wok (intT (t / ((Nat.gcd t.natAbs b : Nat) : Int)))) ∧
    (b ≠ Nat.gcd t.natAbs b → isR (intT (t / ((Nat.gcd t.natAbs b : Nat) : Int)) ++ ("/" : Str) ++ intT ((b : Int) / ((Nat.gcd t.natAbs b : Nat) : Int))) = true ∧ Wok (intT (t / ((Nat.gcd t.natAbs b : Nat) : Int)) ++ ("/" : Str) ++ intT ((b : Int) / ((Nat.gcd t.natAbs b : Nat) : Int)))) := by
  generalize hg : Nat.gcd t.natAbs b = g
  have g0 : 0 < g := by rw [← hg]; exact Nat.gcd_pos_of_pos_right _ hb
  have gb : g ∣ b := by rw [← hg]; exact Nat.gcd_dvd_right _ _
  have gt : g ∣ t.natAbs := by rw [← hg]; exact Nat.gcd_dvd_left _ _
  have et : (t / (g : Int)).natAbs = t.natAbs / g := by
    have d : (g : Int) ∣ t := Int.natAbs_dvd_natAbs.mp (by rw [Int.natAbs_natCast]; exact gt)
    rw [Int.natAbs_ediv_of_dvd d, Int.natAbs_natCast]
  have ht2 : (t / (g : Int)).natAbs < 10 ^ 24 := by
    rw [et]
    exact Nat.lt_of_le_of_lt (Nat.div_le_self _ _) ht
  have eb : (b : Int) / (g : Int) = ((b / g : Nat) : Int) := (Int.natCast_ediv b g).symm
  have hb3 : (((b / g : Nat) : Int)).natAbs < 10 ^ 12 := by
    rw [Int.natAbs_natCast]
    exact Nat.lt_of_le_of_lt (Nat.div_le_self _ _) hb2
  have l1 := intT_len (by decide) ht2
  have l2 := intT_len (by decide) hb3
  have nosl : ∀ i : Int, 47 ∉ intL i := fun i h => by
    rcases intL_mem h with h | h <;> omega
  constructor
  · intro _
    have n1 := (num_ok (i := t / (g : Int)) (Nat.lt_trans ht2 (by decide))).2
    refine ⟨?_, n1⟩
    unfold isR
    have lx : (tl (intT (t / (g : Int)))).length ≤ 2000 := by rw [← len_tl]; omega
    rw [okR_none lx (by rw [intT_tl]; exact par_none1 (nosl _)), okW_t lx, intT_tl]
    exact (intL_wh _).1
  · intro ne
    rw [eb]
    have etl : tl (intT (t / (g : Int)) ++ ("/" : Str) ++ intT ((b / g : Nat) : Int)) = intL (t / (g : Int)) ++ ([47] ++ intL ((b / g : Nat) : Int)) := by
      rw [tl_append, tl_append, intT_tl, intT_tl, slash_tl, List.append_assoc]
    have hp : par [47] [] (tl (intT (t / (g : Int)) ++ ("/" : Str) ++ intT ((b / g : Nat) : Int))) = some (intL (t / (g : Int)), intL ((b / g : Nat) : Int)) := by
      rw [etl]
      have := par_part1 (S := []) (s := 47) (p := intL (t / (g : Int))) (rest := intL ((b / g : Nat) : Int)) (acc := []) (nosl _)
      rw [List.nil_append] at this
      exact this
    have e1 := len_tl (intT (t / (g : Int)))
    have e2 := len_tl (intT ((b / g : Nat) : Int))
    rw [intT_tl] at e1 e2
    have lx : (intT (t / (g : Int)) ++ ("/" : Str) ++ intT ((b / g : Nat) : Int)).length ≤ 60 := by
      rw [len_tl, etl, List.length_append, List.length_append]
      show _ + (1 + _) ≤ 60
      omega
    refine ⟨?_, ⟨by omega, asc_iff.mpr fun c hc => ?_, fun hc => ?_⟩⟩
    · unfold isR
      rw [okR_some (by rw [← len_tl]; omega) hp, okW_t (by omega), okW_f (by omega), (intL_wh _).1, (intL_wh _).2, (intL_wh _).2]
      have hd : digW (intL ((b / g : Nat) : Int)) = true := by
        unfold intL
        rw [if_neg (Int.not_lt.mpr (Int.natCast_nonneg _))]
        exact numL_digW _
      have h2 : 2 ≤ b / g := by
        obtain ⟨c, rfl⟩ := gb
        rw [Nat.mul_div_cancel_left c g0]
        rcases c with _ | _ | c
        · simp at hb
        · simp at ne
        · omega
      have hgg : Nat.gcd (t / (g : Int)).natAbs (((b / g : Nat) : Int)).natAbs = 1 := by
        rw [et, Int.natAbs_natCast, ← hg]
        exact Nat.gcd_div_gcd_div_gcd_of_pos_right hb
      rw [hd, hgg, decide_eq_true (show (2 : Int) ≤ ((b / g : Nat) : Int) from Int.ofNat_le.mpr h2)]
      rfl
    · rw [etl] at hc
      rcases List.mem_append.mp hc with hc | hc
      · rcases intL_mem hc with h | h <;> omega
      · rcases List.mem_append.mp hc with hc | hc
        · rw [List.mem_singleton.mp hc]; decide
        · rcases intL_mem hc with h | h <;> omega
    · rw [etl] at hc
      rcases List.mem_append.mp hc with hc | hc
      · rcases intL_mem hc with h | h <;> omega
      · rcases List.mem_append.mp hc with hc | hc
        · exact absurd (List.mem_singleton.mp hc) (by decide)
        · rcases intL_mem hc with h | h <;> omega
section
variable {P : Program} {w : World} {K : PySem.W.Frag} {mg : Str → Option Value} {base : Heap}
def spNum : Sp := fun vs H Q _ => ∃ (p l : Addr) (k : Nat), vs = [.ref p, .int (k : Int)] ∧ PotAt H p l ∧ k ≤ 1000 ∧ ∀ x H', okN x = true → Wok x → Pt p l H H' → Q (.str x) H'
theorem ok__law_number (T : Tx fxL fnL K mg) : FnR P w K mg base (L2.CX P w) 2 (ga K "_law_number") spNum := by
  refine fun_ok (F__law_number T) sc__law_number (fun _ _ _ _ _ _ us hl => match us, hl with | [_, _], _ => rfl) ?_ ?_
  · rintro vs H Q E ⟨p, l, k, rfl, _⟩
    rfl
  · rintro cdv A outer s H vs Q E hr ⟨p, l, k, rfl, hp, hk, q⟩
    refine ⟨_, (pss_cons (ps_if (pt_cmpR (o_eq hr.units) (pe_callF ((ok__law_digit T).mono (by decide)) hr (takes_of rfl rfl rfl rfl) (by rfl) (gm__law_digit T) (k__law_digit T) (pa_cons (pv 0) (pa_cons pe_int pa_nil))) pe_int (nomark _)) (pss_one (ps_ret (pe_callTy b_str (by rfl) (z_str T) (by decide +kernel) (pa_cons (pe_op o_sub (pe_callF ((ok__law_digit T).mono (by decide)) hr (takes_of rfl rfl rfl rfl) (by rfl) (gm__law_digit T) (k__law_digit T) (pa_cons (pv 0) (pa_cons (pe_op o_add (pe_op o_mul pe_int (pe_op o_pow pe_int pe_int)) pe_int) pa_nil))) (pe_op o_pow pe_int pe_int)) pa_nil)))) pss_nil)
 (pss_one (ps_ret (pe_callTy b_str (by rfl) (z_str T) (by decide +kernel) (pa_cons (pe_op o_sub (pe_op o_mod (pe_callTy (c_int (nd_int T)) (by rfl) (z_int T) (by decide +kernel) (pa_cons (pe_op o_add (pe_op o_add (pe_callF ((ok__law_digit T).mono (by decide)) hr (takes_of rfl rfl rfl rfl) (by rfl) (gm__law_digit T) (k__law_digit T) (pa_cons (pv 0) (pa_cons pe_int pa_nil))) (pe_op o_mul pe_int (pv 1))) pe_int) pa_nil)) pe_int) pe_int) pa_nil))))), ?_⟩
    refine g_start (σ := [some (.ref p), some (.int (k : Int))]) rfl ?_
    walk_at "gg"
    refine ⟨p, l, 7, rfl, hp, by decide, by decide, fun r1 H1 h1 pt1 => ?_⟩
    walk_at "gg"
    refine g_ite (fun c => ?_) (fun c => ?_)
    · walk_at "gg"
      refine g_powI ⟨by decide, by decide, by decide⟩ ?_
      walk_at "gg"
      refine g_mulI ?_ ?_
      · exact mulW (by decide +kernel) (by decide +kernel)
      walk_at "gg"
      refine ⟨p, l, 2 * 10 ^ 30 + 1, ?_, pt1.pot, by decide, by decide +kernel, fun r2 H2 h2 pt2 => ?_⟩
      · exact congrArg (fun i => [V.ref p, V.int i]) (show ((2 : Int) * 10 ^ (30 : Int).toNat + 1) = ((2 * 10 ^ 30 + 1 : Nat) : Int) by decide +kernel)
      walk_at "gg"
      refine g_powI ⟨by decide, by decide, by decide⟩ ?_
      walk_at "gg"
      have hb : ((r2 : Int) - 10 ^ (30 : Int).toNat).natAbs < 10 ^ 31 := by
        rw [show (10 : Int) ^ (30 : Int).toNat = 1000000000000000000000000000000 by decide +kernel]
        rw [show 2 * 10 ^ 30 + 1 = 2000000000000000000000000000001 by decide +kernel] at h2
        rw [show 10 ^ 31 = 10000000000000000000000000000000 by decide +kernel]
        omega
      refine g_strI (log_31 hb) ?_
      exact q _ _ (num_ok hb).1 (num_ok hb).2 (pt1.trans pt2)
    · walk_at "gg"
      refine ⟨p, l, 13, rfl, pt1.pot, by decide, by decide, fun r2 H2 h2 pt2 => ?_⟩
      walk_at "gg"
      refine g_mulI (mulS (by decide) (by omega)) ?_
      walk_at "gg"
      refine g_modI (by decide) ?_
      walk_at "gg"
      have hb : (((r2 : Int) + 5 * (k : Int) + 2) % 13 - 6).natAbs < 10 ^ 31 := Nat.lt_of_lt_of_le (show _ < 20 by omega) (by decide)
      refine g_strI (log_31 hb) ?_
      exact q _ _ (num_ok hb).1 (num_ok hb).2 (pt1.trans pt2)
def spFrac : Sp := fun vs H Q _ => ∃ (p l : Addr) (k : Nat), vs = [.ref p, .int (k : Int)] ∧ PotAt H p l ∧ k ≤ 1000 ∧ ∀ x H', isR x = true → Wok x → Pt p l H H' → Q (.str x) H'
theorem ok__law_fraction (T : Tx fxL fnL K mg) : FnR P w K mg base (L2.CX P w) 2 (ga K "_law_fraction") spFrac := by
  refine fun_ok (F__law_fraction T) sc__law_fraction (fun _ _ _ _ _ _ us hl => match us, hl with | [_, _], _ => rfl) ?_ ?_
  · rintro vs H Q E ⟨p, l, k, rfl, _⟩
    rfl
  · rintro cdv A outer s H vs Q E hr ⟨p, l, k, rfl, hp, hk, q⟩
    refine ⟨_, (pss_cons (ps_set (i := 2) sc__law_fraction.nd rfl (Or.inl rfl) (pe_op o_sub (pe_op o_mod (pe_callTy (c_int (nd_int T)) (by rfl) (z_int T) (by decide +kernel) (pa_cons (pe_op o_add (pe_op o_add (pe_callF ((ok__law_digit T).mono (by decide)) hr (takes_of rfl rfl rfl rfl) (by rfl) (gm__law_digit T) (k__law_digit T) (pa_cons (pv 0) (pa_cons pe_int pa_nil))) (pe_op o_mul pe_int (pv 1))) pe_int) pa_nil)) pe_int) pe_int))
 (pss_cons (ps_set (i := 3) sc__law_fraction.nd rfl (Or.inl rfl) (pe_op o_add pe_int (pe_op o_mod (pe_callTy (c_int (nd_int T)) (by rfl) (z_int T) (by decide +kernel) (pa_cons (pe_op o_add (pe_callF ((ok__law_digit T).mono (by decide)) hr (takes_of rfl rfl rfl rfl) (by rfl) (gm__law_digit T) (k__law_digit T) (pa_cons (pv 0) (pa_cons pe_int pa_nil))) (pv 1)) pa_nil)) pe_int)))
 (pss_cons (ps_if (pt_cmpR (o_eq hr.units) (pe_callF ((ok__law_digit T).mono (by decide)) hr (takes_of rfl rfl rfl rfl) (by rfl) (gm__law_digit T) (k__law_digit T) (pa_cons (pv 0) (pa_cons pe_int pa_nil))) pe_int (nomark _)) (pss_cons (ps_set (i := 2) sc__law_fraction.nd rfl (Or.inl rfl) (pe_op o_add (pe_op o_mul (pv 2) (pe_op o_pow pe_int pe_int)) (pe_callF ((ok__law_digit T).mono (by decide)) hr (takes_of rfl rfl rfl rfl) (by rfl) (gm__law_digit T) (k__law_digit T) (pa_cons (pv 0) (pa_cons (pe_op o_pow pe_int pe_int) pa_nil)))))
 (pss_one (ps_set (i := 3) sc__law_fraction.nd rfl (Or.inl rfl) (pe_op o_add (pe_op o_mul (pv 3) (pe_op o_pow pe_int pe_int)) (pe_callF ((ok__law_digit T).mono (by decide)) hr (takes_of rfl rfl rfl rfl) (by rfl) (gm__law_digit T) (k__law_digit T) (pa_cons (pv 0) (pa_cons (pe_op o_pow pe_int pe_int) pa_nil))))))) pss_nil)
 (pss_cons (ps_set (i := 4) sc__law_fraction.nd rfl (Or.inl rfl) (pe_callF ((ok__law_common T).mono (by decide)) hr (takes_of rfl rfl rfl rfl) (by rfl) (gm__law_common T) (k__law_common T) (pa_cons (pe_callB b_abs (by rfl) (z_abs T) (by decide +kernel) (pa_cons (pv 2) pa_nil)) (pa_cons (pv 3) pa_nil))))
 (pss_cons (ps_if (pt_cmpR (o_eq hr.units) (pv 3) (pv 4) (nomark _)) (pss_one (ps_ret (pe_callTy b_str (by rfl) (z_str T) (by decide +kernel) (pa_cons (pe_op o_fdv (pv 2) (pv 4)) pa_nil)))) pss_nil)
 (pss_one (ps_ret (pe_op o_add (pe_op o_add (pe_callTy b_str (by rfl) (z_str T) (by decide +kernel) (pa_cons (pe_op o_fdv (pv 2) (pv 4)) pa_nil)) pe_str) (pe_callTy b_str (by rfl) (z_str T) (by decide +kernel) (pa_cons (pe_op o_fdv (pv 3) (pv 4)) pa_nil)))))))))), ?_⟩
    refine g_start (σ := [some (.ref p), some (.int (k : Int)), none, none, none]) rfl ?_
    walk_at "gg"
    refine ⟨p, l, 25, rfl, hp, by decide, by decide, fun r1 H1 h1 pt1 => ?_⟩
    walk_at "gg"
    refine g_mulI (mulS (by decide) (by omega)) ?_
    walk_at "gg"
    refine g_modI (by decide) ?_
    walk_at "gg"
    refine ⟨p, l, 12, rfl, pt1.pot, by decide, by decide, fun r2 H2 h2 pt2 => ?_⟩
    walk_at "gg"
    refine g_modI (by decide) ?_
    obtain ⟨t0, ht0, ht1⟩ : ∃ t0 : Int, ((r1 : Int) + 7 * (k : Int) + 15) % 25 - 12 = t0 ∧ t0.natAbs ≤ 12 := ⟨_, rfl, by omega⟩
    obtain ⟨b0, hb0, hb1, hb2⟩ : ∃ b0 : Nat, 1 + ((r2 : Int) + (k : Int)) % 12 = (b0 : Int) ∧ 0 < b0 ∧ b0 ≤ 12 := ⟨(1 + ((r2 : Int) + (k : Int)) % 12).toNat, by omega, by omega, by omega⟩
    rw [ht0]
    refine g_addI ?_
    rw [hb0]
    walk_at "gw"
    have e20 : (10 : Int) ^ (20 : Int).toNat = 100000000000000000000 := by decide +kernel
    have e9 : (10 : Int) ^ (9 : Int).toNat = 1000000000 := by decide +kernel
    have n24 : 10 ^ 24 = 1000000000000000000000000 := by decide +kernel
    have n12 : 10 ^ 12 = 1000000000000 := by decide +kernel
    refine g_seqK (fun σ' H' => ∃ (t : Int) (b : Nat), σ' = [some (.ref p), some (.int (k : Int)), some (.int t), some (.int (b : Int)), none] ∧ Pt p l H H' ∧ 0 < b ∧ b < 10 ^ 12 ∧ t.natAbs < 10 ^ 24) ?_ ?_
    · rintro σ' H3 ⟨t, b, rfl, pt, hb, hbb, htt⟩
      obtain ⟨f1, f2⟩ := frac_ok hb hbb htt
      have eabs : (if t < 0 then -t else t) = ((t.natAbs : Nat) : Int) := by split <;> omega
      have b299 : b < 2 ^ 299 := Nat.lt_trans hbb (by decide +kernel)
      have g0 : 0 < Nat.gcd t.natAbs b := Nat.gcd_pos_of_pos_right _ hb
      have gle : Nat.gcd t.natAbs b ≤ b := Nat.gcd_le_right _ hb
      have glog : ((Nat.gcd t.natAbs b : Nat) : Int).natAbs.log2 < 9000 := by
        rw [Int.natAbs_natCast]
        exact log10_2000 (Nat.lt_of_le_of_lt gle (Nat.lt_trans hbb (by decide +kernel)))
      have tb : ∀ g : Int, (t / g).natAbs < 10 ^ 31 := fun g => Nat.lt_of_le_of_lt (Int.natAbs_ediv_le_natAbs _ _) (Nat.lt_trans htt (by decide +kernel))
      have bb : ∀ g : Int, ((b : Int) / g).natAbs < 10 ^ 31 := fun g => Nat.lt_of_le_of_lt (Int.natAbs_ediv_le_natAbs _ _) (by rw [Int.natAbs_natCast]; exact Nat.lt_trans hbb (by decide +kernel))
      walk_at "gg"
      refine ⟨t.natAbs, b, by rw [eabs], b299, ?_⟩
      walk_at "gg"
      refine g_ite (fun c => ?_) (fun c => ?_)
      · walk_at "gg"
        refine g_fdvI (by omega) glog ?_
        walk_at "gg"
        refine g_strI (log_31 (tb _)) ?_
        exact q _ _ (f1 (by omega)).1 (f1 (by omega)).2 pt
      · have ff := f2 (by omega)
        walk_at "gg"
        refine g_fdvI (by omega) glog ?_
        walk_at "gg"
        refine g_strI (log_31 (tb _)) ?_
        walk_at "gg"
        have lw := ff.2.len
        rw [len_tl, tl_append, tl_append, List.length_append, List.length_append, ← len_tl, ← len_tl, ← len_tl] at lw
        refine g_addS (by rw [sizeLine_eq]; unfold intT at lw; omega) ?_
        walk_at "gg"
        refine g_fdvI (by omega) glog ?_
        walk_at "gg"
        refine g_strI (log_31 (bb _)) ?_
        walk_at "gg"
        refine g_addS ?_ ?_
        · rw [len_tl, tl_append, List.length_append, ← len_tl, ← len_tl, sizeLine_eq]
          unfold intT at lw
          omega
        · exact q _ _ ff.1 ff.2 pt
    · intro N hN
      walk_at "gg"
      refine ⟨p, l, 6, rfl, (pt1.trans pt2).pot, by decide, by decide, fun r3 H3 h3 pt3 => ?_⟩
      have pt4 := (pt1.trans pt2).trans pt3
      walk_at "gg"
      refine g_ite (fun c => ?_) (fun c => ?_)
      · walk_at "gg"
        refine g_powI ⟨by decide, by decide, by decide⟩ ?_
        walk_at "gg"
        refine g_mulI (mulW (Nat.lt_of_le_of_lt ht1 (by decide +kernel)) (by decide +kernel)) ?_
        walk_at "gg"
        refine g_powI ⟨by decide, by decide, by decide⟩ ?_
        walk_at "gg"
        refine ⟨p, l, 10 ^ 20, ?_, pt4.pot, by decide, by decide +kernel, fun r5 H5 h5 pt5 => ?_⟩
        · exact congrArg (fun i => [V.ref p, V.int i]) (show ((10 : Int) ^ (20 : Int).toNat) = ((10 ^ 20 : Nat) : Int) by decide +kernel)
        walk_at "gg"
        refine g_powI ⟨by decide, by decide, by decide⟩ ?_
        walk_at "gg"
        refine g_mulI (mulW (by rw [Int.natAbs_natCast]; exact Nat.lt_of_le_of_lt hb2 (by decide +kernel)) (by decide +kernel)) ?_
        walk_at "gg"
        refine g_powI ⟨by decide, by decide, by decide⟩ ?_
        walk_at "gg"
        refine ⟨p, l, 10 ^ 9, ?_, (pt4.trans pt5).pot, by decide, by decide +kernel, fun r6 H6 h6 pt6 => ?_⟩
        · exact congrArg (fun i => [V.ref p, V.int i]) (show ((10 : Int) ^ (9 : Int).toNat) = ((10 ^ 9 : Nat) : Int) by decide +kernel)
        walk_at "gg"
        rw [e20, e9]
        have z5 : 10 ^ 20 = 100000000000000000000 := by decide +kernel
        rw [z5] at h5
        refine hN _ _ ⟨t0 * 100000000000000000000 + (r5 : Int), b0 * 1000000000 + r6, ?_, (pt4.trans pt5).trans pt6, by omega, by omega, by omega⟩
        rw [show ((b0 * 1000000000 + r6 : Nat) : Int) = (b0 : Int) * 1000000000 + (r6 : Int) by omega]
      · walk_at "gg"
        exact hN _ _ ⟨t0, b0, rfl, pt4, hb1, by omega, by omega⟩
end
end My
namespace My
open PySem PySem.Spec PyProof.Rows L2 He He5 Go NumT RatA TL TxtA DeqA
local macro_rules | `(tactic| walk_at "gv") => `(tactic| first
  | with_reducible refine g_v0 ?_ | with_reducible refine g_v1 ?_ | with_reducible refine g_v2 ?_ | with_reducible refine g_v3 ?_ | with_reducible refine g_v4 ?_ | with_reducible refine g_v5 ?_
  | with_reducible refine g_v6 ?_ | with_reducible refine g_v7 ?_ | with_reducible refine g_v8 ?_ | with_reducible refine g_v9 ?_ | with_reducible refine g_v10 ?_ | with_reducible refine g_v11 ?_ | with_reducible refine g_v12 ?_)
local macro_rules | `(tactic| walk_at "gn") => `(tactic| first
  | with_reducible refine g_n0 ?_ | with_reducible refine g_n1 ?_ | with_reducible refine g_n2 ?_ | with_reducible refine g_n3 ?_ | with_reducible refine g_n4 ?_ | with_reducible refine g_n5 ?_
  | with_reducible refine g_n6 ?_ | with_reducible refine g_n7 ?_ | with_reducible refine g_n8 ?_ | with_reducible refine g_n9 ?_ | with_reducible refine g_n10 ?_ | with_reducible refine g_n11 ?_ | with_reducible refine g_n12 ?_)
local macro_rules | `(tactic| walk_at "gs") => `(tactic| first
  | with_reducible refine g_asg ?_ | with_reducible refine g_ret ?_ | with_reducible refine g_if ?_ | with_reducible refine g_drop ?_ | with_reducible refine g_next ?_
  | with_reducible refine g_retN ?_ | with_reducible refine g_brk ?_ | with_reducible refine g_cont ?_ | with_reducible refine g_forA ?_ | with_reducible refine g_sfld ?_)
local macro_rules | `(tactic| walk_at "ge") => `(tactic| first
  | with_reducible refine g_c ?_ | with_reducible refine g_op ?_ | with_reducible refine g_test ?_ | with_reducible refine g_bl ?_ | with_reducible refine g_tB ?_ | with_reducible refine g_not ?_
  | with_reducible refine g_and ?_ | with_reducible refine g_or ?_ | with_reducible refine g_notV ?_ | with_reducible refine g_andV ?_ | with_reducible refine g_orV ?_ | with_reducible refine g_ifE ?_
  | with_reducible refine g_un ?_ | with_reducible refine g_chain ?_ | with_reducible refine g_nil ?_ | with_reducible refine g_cons ?_ | with_reducible refine g_tup ?_ | with_reducible refine g_lst ?_
  | with_reducible refine g_cb ?_ | with_reducible refine g_call ?_ | with_reducible refine g_cmeth ?_ | with_reducible refine g_make ?_ | with_reducible refine g_noPart ?_ | with_reducible refine g_part ?_
  | with_reducible refine g_partI ?_ | with_reducible refine g_sl ?_ | with_reducible refine g_m1 ?_ | with_reducible refine g_m0 ?_ | with_reducible refine g_isS ?_ | with_reducible refine g_gsub ?_
  | with_reducible refine g_gcons ?_ | with_reducible refine g_gnil ?_ | with_reducible refine g_bm ?_ | with_reducible refine g_bm0 ?_ | with_reducible refine g_mk ?_ | with_reducible refine g_lc ?_ | with_reducible refine g_fld ?_ | with_reducible refine g_yes ?_)
local macro_rules | `(tactic| walk_at "go_") => `(tactic| first
  | with_reducible refine g_addI ?_ | with_reducible refine g_subI ?_ | with_reducible refine g_ltI ?_ | with_reducible refine g_leI ?_ | with_reducible refine g_gtI ?_ | with_reducible refine g_geI ?_
  | with_reducible refine g_eqI ?_ | with_reducible refine g_eqS ?_ | with_reducible refine g_neI ?_ | with_reducible refine g_neS ?_
  | with_reducible refine g_isNn ?_ | with_reducible refine g_isNi ?_ | with_reducible refine g_isNs ?_ | with_reducible refine g_isNr ?_
  | with_reducible refine g_notNn ?_ | with_reducible refine g_notNi ?_ | with_reducible refine g_notNs ?_ | with_reducible refine g_notNr ?_ | with_reducible refine g_neg ?_
  | with_reducible refine g_inS ?_ | with_reducible refine g_niS ?_ | with_reducible refine g_iteT ?_ | with_reducible refine g_iteF ?_ | with_reducible refine g_iteNT ?_ | with_reducible refine g_iteNF ?_
  | with_reducible refine g_intI ?_ | with_reducible refine g_intB ?_ | with_reducible refine g_gcd ?_ | with_reducible refine g_max2 ?_ | with_reducible refine g_min2 ?_ | with_reducible refine g_stw ?_ | with_reducible refine g_abs ?_
  | with_reducible refine g_iStr ?_ | with_reducible refine g_exS ?_ | with_reducible refine g_iList ?_ | with_reducible refine g_iTup ?_ | with_reducible refine g_iR1 ?_ | with_reducible refine g_iR2 ?_ | with_reducible refine g_exR1 (by omega) (by omega) ?_ | with_reducible refine g_exR2 (by omega) ?_)
local macro_rules | `(tactic| walk_at "go1") => `(tactic| first | walk_at "gs" | with_reducible refine g_seq ?_ | walk_at "gv" | walk_at "ge" | walk_at "gn" | walk_at "go_")
local macro_rules | `(tactic| walk_at "go") => `(tactic| repeat walk_at "go1")
local macro_rules | `(tactic| walk_at "gl") => `(tactic| first
  | with_reducible refine g_lenS (by assumption) ?_ | with_reducible refine g_lenL (by assumption) ?_ | with_reducible refine g_lenT (by assumption) ?_ | with_reducible refine g_exL (by assumption) ?_ | with_reducible refine g_exT (by assumption) ?_)
local macro_rules | `(tactic| walk_at "gw") => `(tactic| repeat (first | walk_at "gs" | walk_at "gv" | walk_at "ge" | walk_at "gn" | walk_at "go_" | walk_at "gl"))
local macro_rules | `(tactic| walk_at "go2") => `(tactic| first | walk_at "go1" | walk_at "gl")
local macro_rules | `(tactic| walk_at "gg") => `(tactic| repeat walk_at "go2")

/-! ### the automaton over a list -/
def runL : StA → List Str → Option StA
  | a, [] => some a
  | a, x :: r => (stepA a x).bind fun b => runL b r
theorem runL_nil (a : StA) : runL a [] = some a := rfl
theorem runL_cons {a b : StA} {x : Str} {r : List Str} (h : stepA a x = some b) : runL a (x :: r) = runL b r := by
  show (stepA a x).bind _ = _
  rw [h]
  rfl
theorem runL_app : ∀ {xs : List Str} {a b : StA} {ys : List Str}, runL a xs = some b → runL a (xs ++ ys) = runL b ys
  | [], a, b, ys, h => by
    rw [Option.some.inj h]
    rfl
  | x :: xs, a, b, ys, h => by
    cases e : stepA a x with
    | none =>
      have : runL a (x :: xs) = none := by show (stepA a x).bind _ = _; rw [e]; rfl
      rw [this] at h
      cases h
    | some c =>
      rw [runL_cons e] at h
      rw [List.cons_append, runL_cons e]
      exact runL_app h
/-- what a part of a question promises -/
structure PartOk (ws : List Str) : Prop where
  ok : WsOk ws
  pos : ws ≠ []
  len : ws.length ≤ 10
  run : ∀ S s, runL ⟨S, [("part" : Str)], s⟩ ws = some ⟨S, [("after" : Str)], s⟩
  nop : ("(" : Str) ∉ ws
theorem runL_nums {S : List Int} {s : Int} {r : List Str} : ∀ {row : List Str}, (∀ x ∈ row, okN x = true) → runL ⟨S, ("numbers" : Str) :: r, s⟩ row = some ⟨S, ("numbers" : Str) :: r, s⟩
  | [], _ => rfl
  | x :: row, h => by
    have hx := h x List.mem_cons_self
    have hn : x ≠ ("]" : Str) := by
      rintro rfl
      revert hx
      decide +kernel
    rw [runL_cons (b := ⟨S, ("numbers" : Str) :: r, s⟩) (by rw [st_numsN, if_neg hn, if_pos hx])]
    exact runL_nums fun y hy => h y (List.mem_cons_of_mem _ hy)
theorem runL_labs {S : List Int} {s : Int} {r : List Str} : ∀ {row : List Str}, (∀ x ∈ row, isLab x = true) → runL ⟨S, ("labels" : Str) :: r, s⟩ row = some ⟨S, ("labels" : Str) :: r, s⟩
  | [], _ => rfl
  | x :: row, h => by
    have hx := h x List.mem_cons_self
    have hn : x ≠ ("]" : Str) := by
      rintro rfl
      revert hx
      decide +kernel
    rw [runL_cons (b := ⟨S, ("labels" : Str) :: r, s⟩) (by rw [st_labs, if_neg hn, if_pos hx])]
    exact runL_labs fun y hy => h y (List.mem_cons_of_mem _ hy)
theorem lab_nop {x : Str} (h : isLab x = true) : x ≠ ("(" : Str) := by
  rintro rfl
  revert h
  decide +kernel
theorem num_nop {x : Str} (h : okN x = true) : x ≠ ("(" : Str) := by
  rintro rfl
  revert h
  decide +kernel
theorem wok_by {x : Str} (h1 : x.length ≤ 60 := by decide +kernel) (h2 : asc x = true := by decide +kernel) (h3 : 32 ∉ tl x := by decide +kernel) : Wok x := ⟨h1, h2, h3⟩
theorem po_rat {x : Str} (h : isR x = true) (hw : Wok x) : PartOk [x] := by
  have hn : x ≠ ("(" : Str) := by
    rintro rfl
    revert h
    decide +kernel
  exact ⟨fun y hy => by rw [List.mem_singleton.mp hy]; exact hw, by simp, by simp, fun S s => by rw [runL_cons (st_rat hn h)]; rfl, fun hm => hn (List.mem_singleton.mp hm).symm⟩
theorem po_nums {a n : Str} {row : List Str} (ha : a = ("energy" : Str) ∨ a = ("power" : Str)) (hn : isLab n = true) (hr : ∀ x ∈ row, okN x = true ∧ Wok x) (h1 : row ≠ []) (h2 : row.length ≤ 6) : PartOk ([a, n, ("[" : Str)] ++ row ++ [("]" : Str)]) := by
  have hm : isMea a = true := by rcases ha with rfl | rfl <;> decide +kernel
  have hb : behind a = (["label", "[", "number", "numbers"] : List Str) := by rcases ha with rfl | rfl <;> decide +kernel
  have hwa : Wok a := by rcases ha with rfl | rfl <;> exact wok_by
  have hna : a ≠ ("(" : Str) := by rcases ha with rfl | rfl <;> decide +kernel
  refine ⟨fun y hy => ?_, by simp, by simp; omega, fun S s => ?_, fun hy => ?_⟩
  · simp only [List.mem_append, List.mem_cons, List.not_mem_nil, or_false] at hy
    rcases hy with ((rfl | rfl | rfl) | hy) | rfl
    · exact hwa
    · exact lab_wok hn
    · exact wok_by
    · exact (hr y hy).2
    · exact wok_by
  · rw [List.append_assoc]
    show runL _ (a :: n :: ("[" : Str) :: (row ++ [("]" : Str)])) = _
    rw [runL_cons (st_mea hm), hb, runL_cons (b := ⟨S, ["[", "number", "numbers", "after"], s⟩) (by rw [List.cons_append, st_lab, if_pos hn]; rfl), runL_cons (b := ⟨S, ["number", "numbers", "after"], s⟩) (by rw [st_lb, if_pos rfl])]
    cases row with
    | nil => exact absurd rfl h1
    | cons x row =>
      rw [List.cons_append, runL_cons (b := ⟨S, ["numbers", "after"], s⟩) (by rw [st_numN, if_pos (hr x List.mem_cons_self).1]), runL_app (runL_nums fun y hy => (hr y (List.mem_cons_of_mem _ hy)).1), runL_cons (b := ⟨S, ["after"], s⟩) (by rw [st_numsN, if_pos rfl])]
      rfl
  · simp only [List.mem_append, List.mem_cons, List.not_mem_nil, or_false] at hy
    rcases hy with ((h | h | h) | h) | h
    · exact hna h.symm
    · exact lab_nop hn h.symm
    · revert h; decide +kernel
    · exact num_nop (hr _ h).1 rfl
    · revert h; decide +kernel
theorem po_cut {n : Str} {row : List Str} (hn : isLab n = true) (hr : ∀ x ∈ row, isLab x = true) (h2 : row.length ≤ 6) : PartOk ([("cut" : Str), n, ("[" : Str)] ++ row ++ [("]" : Str)]) := by
  have hm : isMea ("cut" : Str) = true := by decide +kernel
  have hb : behind ("cut" : Str) = (["label", "[", "labels"] : List Str) := by decide +kernel
  refine ⟨fun y hy => ?_, by simp, by simp; omega, fun S s => ?_, fun hy => ?_⟩
  · simp only [List.mem_append, List.mem_cons, List.not_mem_nil, or_false] at hy
    rcases hy with ((rfl | rfl | rfl) | hy) | rfl
    · exact wok_by
    · exact lab_wok hn
    · exact wok_by
    · exact lab_wok (hr y hy)
    · exact wok_by
  · rw [List.append_assoc]
    show runL _ (("cut" : Str) :: n :: ("[" : Str) :: (row ++ [("]" : Str)])) = _
    rw [runL_cons (st_mea hm), hb, runL_cons (b := ⟨S, ["[", "labels", "after"], s⟩) (by rw [List.cons_append, st_lab, if_pos hn]; rfl), runL_cons (b := ⟨S, ["labels", "after"], s⟩) (by rw [st_lb, if_pos rfl]), runL_app (runL_labs hr), runL_cons (b := ⟨S, ["after"], s⟩) (by rw [st_labs, if_pos rfl])]
    rfl
  · simp only [List.mem_append, List.mem_cons, List.not_mem_nil, or_false] at hy
    rcases hy with ((h | h | h) | h) | h
    · revert h; decide +kernel
    · exact lab_nop hn h.symm
    · revert h; decide +kernel
    · exact lab_nop (hr _ h) rfl
    · revert h; decide +kernel
theorem po_res {n u v : Str} (hn : isLab n = true) (hu : isLab u = true) (hv : isLab v = true) : PartOk ([("resistance" : Str), n, ("[" : Str)] ++ [u, v] ++ [("]" : Str)]) := by
  have hm : isMea ("resistance" : Str) = true := by decide +kernel
  have hb : behind ("resistance" : Str) = (["label", "[", "label", "label", "]"] : List Str) := by decide +kernel
  refine ⟨fun y hy => ?_, by simp, by simp, fun S s => ?_, fun hy => ?_⟩
  · simp only [List.mem_append, List.mem_cons, List.not_mem_nil, or_false] at hy
    rcases hy with ((rfl | rfl | rfl) | rfl | rfl) | rfl
    · exact wok_by
    · exact lab_wok hn
    · exact wok_by
    · exact lab_wok hu
    · exact lab_wok hv
    · exact wok_by
  · show runL _ [("resistance" : Str), n, ("[" : Str), u, v, ("]" : Str)] = _
    rw [runL_cons (st_mea hm), hb, runL_cons (b := ⟨S, ["[", "label", "label", "]", "after"], s⟩) (by rw [List.cons_append, st_lab, if_pos hn]; rfl), runL_cons (b := ⟨S, ["label", "label", "]", "after"], s⟩) (by rw [st_lb, if_pos rfl]), runL_cons (b := ⟨S, ["label", "]", "after"], s⟩) (by rw [st_lab, if_pos hu]), runL_cons (b := ⟨S, ["]", "after"], s⟩) (by rw [st_lab, if_pos hv]), runL_cons (b := ⟨S, ["after"], s⟩) (by rw [st_rb, if_pos rfl])]
    rfl
  · simp only [List.mem_append, List.mem_cons, List.not_mem_nil, or_false] at hy
    rcases hy with ((h | h | h) | h | h) | h
    · revert h; decide +kernel
    · exact lab_nop hn h.symm
    · revert h; decide +kernel
    · exact lab_nop hu h.symm
    · exact lab_nop hv h.symm
    · revert h; decide +kernel
theorem po_pull {n u : Str} (hn : isLab n = true) (hu : isLab u = true) : PartOk [("pull" : Str), n, u] := by
  have hm : isMea ("pull" : Str) = true := by decide +kernel
  have hb : behind ("pull" : Str) = (["label", "label"] : List Str) := by decide +kernel
  refine ⟨fun y hy => ?_, by simp, by simp, fun S s => ?_, fun hy => ?_⟩
  · simp only [List.mem_cons, List.not_mem_nil, or_false] at hy
    rcases hy with rfl | rfl | rfl
    · exact wok_by
    · exact lab_wok hn
    · exact lab_wok hu
  · rw [runL_cons (st_mea hm), hb, runL_cons (b := ⟨S, ["label", "after"], s⟩) (by rw [List.cons_append, st_lab, if_pos hn]; rfl), runL_cons (b := ⟨S, ["after"], s⟩) (by rw [st_lab, if_pos hu])]
    rfl
  · simp only [List.mem_cons, List.not_mem_nil, or_false] at hy
    rcases hy with h | h | h
    · revert h; decide +kernel
    · exact lab_nop hn h.symm
    · exact lab_nop hu h.symm
theorem po_one {a n : Str} (ha : a = ("forests" : Str) ∨ a = ("determinant" : Str) ∨ a = ("cost" : Str)) (hn : isLab n = true) : PartOk [a, n] := by
  have hm : isMea a = true := by rcases ha with rfl | rfl | rfl <;> decide +kernel
  have hb : behind a = (["label"] : List Str) := by rcases ha with rfl | rfl | rfl <;> decide +kernel
  have hwa : Wok a := by rcases ha with rfl | rfl | rfl <;> exact wok_by
  have hna : a ≠ ("(" : Str) := by rcases ha with rfl | rfl | rfl <;> decide +kernel
  refine ⟨fun y hy => ?_, by simp, by simp, fun S s => ?_, fun hy => ?_⟩
  · simp only [List.mem_cons, List.not_mem_nil, or_false] at hy
    rcases hy with rfl | rfl
    · exact hwa
    · exact lab_wok hn
  · rw [runL_cons (st_mea hm), hb, runL_cons (b := ⟨S, ["after"], s⟩) (by rw [List.cons_append, st_lab, if_pos hn]; rfl)]
    rfl
  · simp only [List.mem_cons, List.not_mem_nil, or_false] at hy
    rcases hy with h | h
    · exact hna h.symm
    · exact lab_nop hn h.symm
end My
namespace My
open PySem PySem.Spec PyProof.Rows L2 He He5 Go NumT RatA TL TxtA DeqA
local macro_rules | `(tactic| walk_at "gv") => `(tactic| first
  | with_reducible refine g_v0 ?_ | with_reducible refine g_v1 ?_ | with_reducible refine g_v2 ?_ | with_reducible refine g_v3 ?_ | with_reducible refine g_v4 ?_ | with_reducible refine g_v5 ?_
  | with_reducible refine g_v6 ?_ | with_reducible refine g_v7 ?_ | with_reducible refine g_v8 ?_ | with_reducible refine g_v9 ?_ | with_reducible refine g_v10 ?_ | with_reducible refine g_v11 ?_ | with_reducible refine g_v12 ?_)
local macro_rules | `(tactic| walk_at "gn") => `(tactic| first
  | with_reducible refine g_n0 ?_ | with_reducible refine g_n1 ?_ | with_reducible refine g_n2 ?_ | with_reducible refine g_n3 ?_ | with_reducible refine g_n4 ?_ | with_reducible refine g_n5 ?_
  | with_reducible refine g_n6 ?_ | with_reducible refine g_n7 ?_ | with_reducible refine g_n8 ?_ | with_reducible refine g_n9 ?_ | with_reducible refine g_n10 ?_ | with_reducible refine g_n11 ?_ | with_reducible refine g_n12 ?_)
local macro_rules | `(tactic| walk_at "gs") => `(tactic| first
  | with_reducible refine g_asg ?_ | with_reducible refine g_ret ?_ | with_reducible refine g_if ?_ | with_reducible refine g_drop ?_ | with_reducible refine g_next ?_
  | with_reducible refine g_retN ?_ | with_reducible refine g_brk ?_ | with_reducible refine g_cont ?_ | with_reducible refine g_forA ?_ | with_reducible refine g_sfld ?_)
local macro_rules | `(tactic| walk_at "ge") => `(tactic| first
  | with_reducible refine g_c ?_ | with_reducible refine g_op ?_ | with_reducible refine g_test ?_ | with_reducible refine g_bl ?_ | with_reducible refine g_tB ?_ | with_reducible refine g_not ?_
  | with_reducible refine g_and ?_ | with_reducible refine g_or ?_ | with_reducible refine g_notV ?_ | with_reducible refine g_andV ?_ | with_reducible refine g_orV ?_ | with_reducible refine g_ifE ?_
  | with_reducible refine g_un ?_ | with_reducible refine g_chain ?_ | with_reducible refine g_nil ?_ | with_reducible refine g_cons ?_ | with_reducible refine g_tup ?_ | with_reducible refine g_lst ?_
  | with_reducible refine g_cb ?_ | with_reducible refine g_call ?_ | with_reducible refine g_cmeth ?_ | with_reducible refine g_make ?_ | with_reducible refine g_noPart ?_ | with_reducible refine g_part ?_
  | with_reducible refine g_partI ?_ | with_reducible refine g_sl ?_ | with_reducible refine g_m1 ?_ | with_reducible refine g_m0 ?_ | with_reducible refine g_isS ?_ | with_reducible refine g_gsub ?_
  | with_reducible refine g_gcons ?_ | with_reducible refine g_gnil ?_ | with_reducible refine g_bm ?_ | with_reducible refine g_bm0 ?_ | with_reducible refine g_mk ?_ | with_reducible refine g_lc ?_ | with_reducible refine g_fld ?_ | with_reducible refine g_yes ?_)
local macro_rules | `(tactic| walk_at "go_") => `(tactic| first
  | with_reducible refine g_addI ?_ | with_reducible refine g_subI ?_ | with_reducible refine g_ltI ?_ | with_reducible refine g_leI ?_ | with_reducible refine g_gtI ?_ | with_reducible refine g_geI ?_
  | with_reducible refine g_eqI ?_ | with_reducible refine g_eqS ?_ | with_reducible refine g_neI ?_ | with_reducible refine g_neS ?_
  | with_reducible refine g_isNn ?_ | with_reducible refine g_isNi ?_ | with_reducible refine g_isNs ?_ | with_reducible refine g_isNr ?_
  | with_reducible refine g_notNn ?_ | with_reducible refine g_notNi ?_ | with_reducible refine g_notNs ?_ | with_reducible refine g_notNr ?_ | with_reducible refine g_neg ?_
  | with_reducible refine g_inS ?_ | with_reducible refine g_niS ?_ | with_reducible refine g_iteT ?_ | with_reducible refine g_iteF ?_ | with_reducible refine g_iteNT ?_ | with_reducible refine g_iteNF ?_
  | with_reducible refine g_intI ?_ | with_reducible refine g_intB ?_ | with_reducible refine g_gcd ?_ | with_reducible refine g_max2 ?_ | with_reducible refine g_min2 ?_ | with_reducible refine g_stw ?_ | with_reducible refine g_abs ?_
  | with_reducible refine g_iStr ?_ | with_reducible refine g_exS ?_ | with_reducible refine g_iList ?_ | with_reducible refine g_iTup ?_ | with_reducible refine g_iR1 ?_ | with_reducible refine g_iR2 ?_ | with_reducible refine g_exR1 (by omega) (by omega) ?_ | with_reducible refine g_exR2 (by omega) ?_)
local macro_rules | `(tactic| walk_at "go1") => `(tactic| first | walk_at "gs" | with_reducible refine g_seq ?_ | walk_at "gv" | walk_at "ge" | walk_at "gn" | walk_at "go_")
local macro_rules | `(tactic| walk_at "go") => `(tactic| repeat walk_at "go1")
local macro_rules | `(tactic| walk_at "gl") => `(tactic| first
  | with_reducible refine g_lenS (by assumption) ?_ | with_reducible refine g_lenL (by assumption) ?_ | with_reducible refine g_lenT (by assumption) ?_ | with_reducible refine g_exL (by assumption) ?_ | with_reducible refine g_exT (by assumption) ?_)
local macro_rules | `(tactic| walk_at "gw") => `(tactic| repeat (first | walk_at "gs" | walk_at "gv" | walk_at "ge" | walk_at "gn" | walk_at "go_" | walk_at "gl"))
local macro_rules | `(tactic| walk_at "go2") => `(tactic| first | walk_at "go1" | walk_at "gl")
local macro_rules | `(tactic| walk_at "gg") => `(tactic| repeat walk_at "go2")

section
variable {P : Program} {w : World} {K : PySem.W.Frag} {mg : Str → Option Value} {base : Heap}
theorem Pt.free {p l q : Addr} {H H1 : Hp} (a : Pt p l H H1) (h : H1 q = none) : H q = none := by
  have n := (a.pot.ne h).1
  cases e : H q with
  | none => rfl
  | some o =>
    have := a.but q o e n.symm
    rw [h] at this
    cases this
def spPart : Sp := fun vs H Q _ => ∃ (p l : Addr) (k : Nat), vs = [.ref p, .int (k : Int)] ∧ PotAt H p l ∧ k ≤ 100 ∧ ∀ lw ws H', PartOk ws → Pt p l H H' → H lw = none → H' lw = some (.lst (ws.map V.str)) → Q (.ref lw) H'
theorem ok__law_part (T : Tx fxL fnL K mg) : FnR P w K mg base (L2.CX P w) 3 (ga K "_law_part") spPart := by
  refine fun_ok (F__law_part T) sc__law_part (fun _ _ _ _ _ _ us hl => match us, hl with | [_, _], _ => rfl) ?_ ?_
  · rintro vs H Q E ⟨p, l, k, rfl, _⟩
    rfl
  · rintro cdv A outer s H vs Q E hr ⟨p, l, k, rfl, hp, hk, q⟩
    refine ⟨_, (pss_cons (ps_set (i := 2) sc__law_part.nd rfl (Or.inl rfl) (pe_op o_mod (pe_callTy (c_int (nd_int T)) (by rfl) (z_int T) (by decide +kernel) (pa_cons (pe_op o_add (pe_callF ((ok__law_digit T).mono (by decide)) hr (takes_of rfl rfl rfl rfl) (by rfl) (gm__law_digit T) (k__law_digit T) (pa_cons (pv 0) (pa_cons pe_int pa_nil))) (pe_op o_mul pe_int (pv 1))) pa_nil)) pe_int))
 (pss_cons (ps_if (pt_cmpR o_ge (pv 2) pe_int (nomark _)) (pss_one (ps_ret (pe_lst (pa_cons (pe_callF ((ok__law_fraction T).mono (by decide)) hr (takes_of rfl rfl rfl rfl) (by rfl) (gm__law_fraction T) (k__law_fraction T) (pa_cons (pv 0) (pa_cons (pv 1) pa_nil))) pa_nil)))) pss_nil)
 (pss_cons (ps_set (i := 3) sc__law_part.nd rfl (Or.inl rfl) (pe_callF ((ok__law_name T).mono (by decide)) hr (takes_of rfl rfl rfl rfl) (by rfl) (gm__law_name T) (k__law_name T) (pa_cons (pv 0) (pa_cons (pv 1) pa_nil))))
 (pss_cons (ps_if (pt_cmpR o_lt (pv 2) pe_int (nomark _)) (pss_cons (ps_set (i := 4) sc__law_part.nd rfl (Or.inl rfl) (pe_op o_add pe_int (pe_op o_mod (pe_callTy (c_int (nd_int T)) (by rfl) (z_int T) (by decide +kernel) (pa_cons (pe_op o_add (pe_callF ((ok__law_digit T).mono (by decide)) hr (takes_of rfl rfl rfl rfl) (by rfl) (gm__law_digit T) (k__law_digit T) (pa_cons (pv 0) (pa_cons pe_int pa_nil))) pe_int) pa_nil)) pe_int)))
 (pss_cons (ps_setLc (i := 5) (own := [("j", 6)]) (by rfl) sc__law_part.nd rfl rfl (sw_true rfl rfl rfl (by decide +kernel)) (pi_range1 (by rfl) (z_range T) (pa_cons (pv 4) pa_nil)) (blkOk_by (N := ["pot", "k", "kind", "word", "many", "row", "j"]) (sc := defScope s__law_part) (by decide +kernel)) (fun _ _ _ _ _ => (pg_name (i := 6) sc__law_part.nd rfl (Or.inl rfl))) (fun _ _ _ _ _ => pts_nil) (fun _ _ _ _ _ => (pe_callF ((ok__law_number T).mono (by decide)) hr takes0 (by rfl) (gm__law_number T) (k__law_number T) (pa_cons (pv 0) (pa_cons (pe_op (o_addK K) (pv 1) (pv 6)) pa_nil)))))
 (pss_one (ps_ret (pe_op o_add (pe_op o_add (pe_lst (pa_cons (pe_ix ix_seq (pe_lst (pa_cons pe_str (pa_cons pe_str pa_nil))) (pv 2) (fun _ _ => rfl)) (pa_cons (pv 3) (pa_cons pe_str pa_nil)))) (pv 5)) (pe_lst (pa_cons pe_str pa_nil))))))) pss_nil)
 (pss_cons (ps_if (pt_cmpR (o_eq hr.units) (pv 2) pe_int (nomark _)) (pss_one (ps_ret (pe_lst (pa_cons pe_str (pa_cons (pv 3) (pa_cons (pe_callF ((ok__law_name T).mono (by decide)) hr (takes_of rfl rfl rfl rfl) (by rfl) (gm__law_name T) (k__law_name T) (pa_cons (pv 0) (pa_cons (pe_op o_add (pv 1) pe_int) pa_nil))) pa_nil)))))) pss_nil)
 (pss_cons (ps_if (pt_cmpR (o_eq hr.units) (pv 2) pe_int (nomark _)) (pss_cons (ps_set (i := 4) sc__law_part.nd rfl (Or.inl rfl) (pe_op o_mod (pe_callTy (c_int (nd_int T)) (by rfl) (z_int T) (by decide +kernel) (pa_cons (pe_op o_add (pe_callF ((ok__law_digit T).mono (by decide)) hr (takes_of rfl rfl rfl rfl) (by rfl) (gm__law_digit T) (k__law_digit T) (pa_cons (pv 0) (pa_cons pe_int pa_nil))) pe_int) pa_nil)) pe_int))
 (pss_cons (ps_setLc (i := 5) (own := [("j", 6)]) (by rfl) sc__law_part.nd rfl rfl (sw_true rfl rfl rfl (by decide +kernel)) (pi_range1 (by rfl) (z_range T) (pa_cons (pv 4) pa_nil)) (blkOk_by (N := ["pot", "k", "kind", "word", "many", "row", "j"]) (sc := defScope s__law_part) (by decide +kernel)) (fun _ _ _ _ _ => (pg_name (i := 6) sc__law_part.nd rfl (Or.inl rfl))) (fun _ _ _ _ _ => pts_nil) (fun _ _ _ _ _ => (pe_callF ((ok__law_name T).mono (by decide)) hr takes0 (by rfl) (gm__law_name T) (k__law_name T) (pa_cons (pv 0) (pa_cons (pe_op (o_addK K) (pv 1) (pv 6)) pa_nil)))))
 (pss_one (ps_ret (pe_op o_add (pe_op o_add (pe_lst (pa_cons pe_str (pa_cons (pv 3) (pa_cons pe_str pa_nil)))) (pv 5)) (pe_lst (pa_cons pe_str pa_nil))))))) pss_nil)
 (pss_cons (ps_if (pt_cmpR (o_eq hr.units) (pv 2) pe_int (nomark _)) (pss_cons (ps_setLc (i := 5) (own := [("j", 6)]) (by rfl) sc__law_part.nd rfl rfl (sw_true rfl rfl rfl (by decide +kernel)) (pi_range1 (by rfl) (z_range T) (pa_cons pe_int pa_nil)) (blkOk_by (N := ["pot", "k", "kind", "word", "many", "row", "j"]) (sc := defScope s__law_part) (by decide +kernel)) (fun _ _ _ _ _ => (pg_name (i := 6) sc__law_part.nd rfl (Or.inl rfl))) (fun _ _ _ _ _ => pts_nil) (fun _ _ _ _ _ => (pe_callF ((ok__law_name T).mono (by decide)) hr takes0 (by rfl) (gm__law_name T) (k__law_name T) (pa_cons (pv 0) (pa_cons (pe_op (o_addK K) (pv 1) (pv 6)) pa_nil)))))
 (pss_one (ps_ret (pe_op o_add (pe_op o_add (pe_lst (pa_cons pe_str (pa_cons (pv 3) (pa_cons pe_str pa_nil)))) (pv 5)) (pe_lst (pa_cons pe_str pa_nil)))))) pss_nil)
 (pss_one (ps_ret (pe_lst (pa_cons (pe_ix ix_seq (pe_lst (pa_cons pe_str (pa_cons pe_str (pa_cons pe_str pa_nil)))) (pe_op o_sub (pv 2) pe_int) (fun _ _ => rfl)) (pa_cons (pv 3) pa_nil)))))))))))), ?_⟩
    refine g_start (σ := [some (.ref p), some (.int (k : Int)), none, none, none, none, none]) rfl ?_
    have fin : ∀ {H1 : Hp} {ws : List Str} {lw : Addr}, Pt p l H H1 → PartOk ws → H1 lw = none → Q (.ref lw) (upd H1 lw (.lst (ws.map V.str))) :=
      fun pt po hn => q _ _ _ po (pt.new hn) (pt.free hn) upd_same
    walk_at "gg"
    refine ⟨p, l, 10, rfl, hp, by decide, by decide, fun r1 H1 h1 pt1 => ?_⟩
    walk_at "gg"
    refine g_mulI (mulS (by decide) (by omega)) ?_
    walk_at "gg"
    refine g_modI (by decide) ?_
    obtain ⟨kd, hkd, hkd2⟩ : ∃ kd : Nat, ((r1 : Int) + 3 * (k : Int)) % 10 = (kd : Int) ∧ kd < 10 := ⟨(((r1 : Int) + 3 * (k : Int)) % 10).toNat, by omega, by omega⟩
    rw [hkd]
    walk_at "gg"
    refine g_ite (fun c => ?_) (fun c => ?_)
    · walk_at "gg"
      refine ⟨p, l, k, rfl, pt1.pot, by omega, fun x H2 hx hw pt2 => ?_⟩
      walk_at "gg"
      exact ⟨one_le, fun lw hlw => fin (pt1.trans pt2) (po_rat hx hw) hlw⟩
    · walk_at "gg"
      refine ⟨p, l, k, rfl, pt1.pot, by omega, fun nm H2 hn pt2 => ?_⟩
      have pt3 := pt1.trans pt2
      walk_at "gg"
      refine g_ite (fun c2 => ?_) (fun c2 => ?_)
      · walk_at "gg"
        refine ⟨p, l, 5, rfl, pt3.pot, by decide, by decide, fun r2 H3 h3 pt4 => ?_⟩
        have pt5 := pt3.trans pt4
        walk_at "gg"
        refine g_modI (by decide) ?_
        obtain ⟨mn, hmn, hmn2⟩ : ∃ mn : Nat, ((r2 : Int) + 2) % 5 = (mn : Int) ∧ mn < 5 := ⟨(((r2 : Int) + 2) % 5).toNat, by omega, by omega⟩
        rw [hmn]
        walk_at "gg"
        intro D hD
        rw [show (1 + (mn : Int)).toNat = mn + 1 by omega]
        have hDp : D ≠ p := fun e => (pt5.pot.ne hD).1 e.symm
        refine c_range (fun i H' => ∃ ys : List Str, ys.length = i ∧ (∀ y ∈ ys, okN y = true ∧ Wok y) ∧ H' D = some (.lst (ys.map V.str)) ∧ Pt p l H3 H') ⟨[], rfl, by simp, upd_same, pt_put pt5.pot (Pt.refl pt5.pot) hD⟩ ?_ ?_
        · rintro i H' hi ⟨ys, hys, hall, hl, pt⟩
          refine g_cell (σ := [some (.ref p), some (.int (k : Int)), some (.int (kd : Int)), some (.str nm), some (.int (1 + (mn : Int))), none, none]) rfl ?_
          walk_at "gg"
          refine ⟨rfl, ?_⟩
          walk_at "gg"
          refine ⟨p, l, k + i, by rw [Int.zero_add]; rfl, pt.pot, by omega, fun x H4 hx hw pt6 => ?_⟩
          refine ⟨_, pt6.at hl hDp, by rw [List.length_map, hys, sizeLine_eq]; omega, ys ++ [x], by rw [List.length_append, hys]; rfl, fun y hy => ?_, by rw [upd_same, List.map_append]; rfl, pt_put pt5.pot (pt.trans pt6) hD⟩
          rcases List.mem_append.mp hy with hy | hy
          · exact hall y hy
          · rw [List.mem_singleton.mp hy]
            exact ⟨hx, hw⟩
        · rintro H' ⟨ys, hys, hall, hl, pt⟩
          have pt7 := pt5.trans pt
          walk_at "gg"
          obtain ⟨a, ha, hat⟩ : ∃ a : Str, (a = ("energy" : Str) ∨ a = ("power" : Str)) ∧ atI [V.str "energy", V.str "power"] (kd : Int) = some (.str a) := by
            rcases (show kd = 0 ∨ kd = 1 by omega) with rfl | rfl
            · exact ⟨_, .inl rfl, rfl⟩
            · exact ⟨_, .inr rfl, rfl⟩
          refine ⟨two_le, fun m hm => ?_⟩
          have ptx := pt7.new (o := .lst [V.str "energy", V.str "power"]) hm
          walk_at "gg"
          refine g_ixL (.inl (.inl upd_same)) hat ?_
          have hlD : (upd H' m (.lst [V.str "energy", V.str "power"])) D = some (.lst (ys.map V.str)) := by rw [upd_ne (ne_of_none hl hm)]; exact hl
          walk_at "gg"
          refine ⟨le_size (by show 3 ≤ 64; decide), fun l1 hl1 => ?_⟩
          walk_at "gg"
          refine g_addL upd_same (by rw [upd_ne (ne_of_none hlD hl1)]; exact hlD) ?_ fun l2 hl2 => ?_
          · rw [List.length_map, hys, sizeLine_eq]
            show 3 + _ ≤ _
            omega
          walk_at "gg"
          refine ⟨one_le, fun l3 hl3 => ?_⟩
          walk_at "gg"
          refine g_addL (by rw [upd_ne (ne_of_none upd_same hl3)]; exact upd_same) upd_same ?_ fun l4 hl4 => ?_
          · rw [List.length_append, List.length_map, hys, sizeLine_eq]
            show 3 + _ + 1 ≤ _
            omega
          have e : ([V.str a, V.str nm, V.str "["] ++ ys.map V.str) ++ [V.str "]"] = ([a, nm, ("[" : Str)] ++ ys ++ [("]" : Str)]).map V.str := by rw [List.map_append, List.map_append]; rfl
          rw [e]
          exact fin (ptx.new hl1 |>.new hl2 |>.new hl3) (po_nums ha hn.lab hall (by intro e; rw [e] at hys; cases hys) (by omega)) hl4
      · walk_at "gg"
        refine g_ite (fun c3 => ?_) (fun c3 => ?_)
        · walk_at "gg"
          refine ⟨p, l, k + 1, rfl, pt3.pot, by omega, fun x H3 hx pt4 => ?_⟩
          walk_at "gg"
          exact ⟨le_size (by show 3 ≤ 64; decide), fun lw hlw => fin (ws := ["pull", nm, x]) (pt3.trans pt4) (po_pull hn.lab hx.lab) hlw⟩
        · walk_at "gg"
          refine g_ite (fun c4 => ?_) (fun c4 => ?_)
          · walk_at "gg"
            refine ⟨p, l, 4, rfl, pt3.pot, by decide, by decide, fun r2 H3 h3 pt4 => ?_⟩
            have pt5 := pt3.trans pt4
            walk_at "gg"
            refine g_modI (by decide) ?_
            obtain ⟨mn, hmn, hmn2⟩ : ∃ mn : Nat, ((r2 : Int) + 2) % 4 = (mn : Int) ∧ mn < 4 := ⟨(((r2 : Int) + 2) % 4).toNat, by omega, by omega⟩
            rw [hmn]
            walk_at "gg"
            intro D hD
            rw [Int.toNat_natCast]
            have hDp : D ≠ p := fun e => (pt5.pot.ne hD).1 e.symm
            refine c_range (fun i H' => ∃ ys : List Str, ys.length = i ∧ (∀ y ∈ ys, isLab y = true) ∧ H' D = some (.lst (ys.map V.str)) ∧ Pt p l H3 H') ⟨[], rfl, by simp, upd_same, pt_put pt5.pot (Pt.refl pt5.pot) hD⟩ ?_ ?_
            · rintro i H' hi ⟨ys, hys, hall, hl, pt⟩
              refine g_cell (σ := [some (.ref p), some (.int (k : Int)), some (.int (kd : Int)), some (.str nm), some (.int (mn : Int)), none, none]) rfl ?_
              walk_at "gg"
              refine ⟨rfl, ?_⟩
              walk_at "gg"
              refine ⟨p, l, k + i, by rw [Int.zero_add]; rfl, pt.pot, by omega, fun x H4 hx pt6 => ?_⟩
              refine ⟨_, pt6.at hl hDp, by rw [List.length_map, hys, sizeLine_eq]; omega, ys ++ [x], by rw [List.length_append, hys]; rfl, fun y hy => ?_, by rw [upd_same, List.map_append]; rfl, pt_put pt5.pot (pt.trans pt6) hD⟩
              rcases List.mem_append.mp hy with hy | hy
              · exact hall y hy
              · rw [List.mem_singleton.mp hy]
                exact hx.lab
            · rintro H' ⟨ys, hys, hall, hl, pt⟩
              have pt7 := pt5.trans pt
              walk_at "gg"
              have ptx := pt7
              have hlD := hl
              refine ⟨le_size (by show 3 ≤ 64; decide), fun l1 hl1 => ?_⟩
              walk_at "gg"
              refine g_addL upd_same (by rw [upd_ne (ne_of_none hlD hl1)]; exact hlD) ?_ fun l2 hl2 => ?_
              · rw [List.length_map, hys, sizeLine_eq]
                show 3 + _ ≤ _
                omega
              walk_at "gg"
              refine ⟨one_le, fun l3 hl3 => ?_⟩
              walk_at "gg"
              refine g_addL (by rw [upd_ne (ne_of_none upd_same hl3)]; exact upd_same) upd_same ?_ fun l4 hl4 => ?_
              · rw [List.length_append, List.length_map, hys, sizeLine_eq]
                show 3 + _ + 1 ≤ _
                omega
              have e : ([V.str "cut", V.str nm, V.str "["] ++ ys.map V.str) ++ [V.str "]"] = ([("cut" : Str), nm, ("[" : Str)] ++ ys ++ [("]" : Str)]).map V.str := by rw [List.map_append, List.map_append]; rfl
              rw [e]
              exact fin (ptx.new hl1 |>.new hl2 |>.new hl3) (po_cut hn.lab hall (by omega)) hl4
          · walk_at "gg"
            refine g_ite (fun c5 => ?_) (fun c5 => ?_)
            · walk_at "gg"
              intro D hD
              rw [show (2 : Int).toNat = 2 from rfl]
              have hDp : D ≠ p := fun e => (pt3.pot.ne hD).1 e.symm
              refine c_range (fun i H' => ∃ ys : List Str, ys.length = i ∧ (∀ y ∈ ys, isLab y = true) ∧ H' D = some (.lst (ys.map V.str)) ∧ Pt p l H2 H') ⟨[], rfl, by simp, upd_same, pt_put pt3.pot (Pt.refl pt3.pot) hD⟩ ?_ ?_
              · rintro i H' hi ⟨ys, hys, hall, hl, pt⟩
                refine g_cell (σ := [some (.ref p), some (.int (k : Int)), some (.int (kd : Int)), some (.str nm), none, none, none]) rfl ?_
                walk_at "gg"
                refine ⟨rfl, ?_⟩
                walk_at "gg"
                refine ⟨p, l, k + i, by rw [Int.zero_add]; rfl, pt.pot, by omega, fun x H4 hx pt6 => ?_⟩
                refine ⟨_, pt6.at hl hDp, by rw [List.length_map, hys, sizeLine_eq]; omega, ys ++ [x], by rw [List.length_append, hys]; rfl, fun y hy => ?_, by rw [upd_same, List.map_append]; rfl, pt_put pt3.pot (pt.trans pt6) hD⟩
                rcases List.mem_append.mp hy with hy | hy
                · exact hall y hy
                · rw [List.mem_singleton.mp hy]
                  exact hx.lab
              · rintro H' ⟨ys, hys, hall, hl, pt⟩
                have pt7 := pt3.trans pt
                walk_at "gg"
                have ptx := pt7
                have hlD := hl
                refine ⟨le_size (by show 3 ≤ 64; decide), fun l1 hl1 => ?_⟩
                walk_at "gg"
                refine g_addL upd_same (by rw [upd_ne (ne_of_none hlD hl1)]; exact hlD) ?_ fun l2 hl2 => ?_
                · rw [List.length_map, hys, sizeLine_eq]
                  show 3 + _ ≤ _
                  omega
                walk_at "gg"
                refine ⟨one_le, fun l3 hl3 => ?_⟩
                walk_at "gg"
                refine g_addL (by rw [upd_ne (ne_of_none upd_same hl3)]; exact upd_same) upd_same ?_ fun l4 hl4 => ?_
                · rw [List.length_append, List.length_map, hys, sizeLine_eq]
                  show 3 + _ + 1 ≤ _
                  omega
                have e : ([V.str "resistance", V.str nm, V.str "["] ++ ys.map V.str) ++ [V.str "]"] = ([("resistance" : Str), nm, ("[" : Str)] ++ ys ++ [("]" : Str)]).map V.str := by rw [List.map_append, List.map_append]; rfl
                rw [e]
                exact fin (ptx.new hl1 |>.new hl2 |>.new hl3) (by
                  obtain ⟨u, v, rfl⟩ : ∃ u v, ys = [u, v] := by
                    match ys, hys with
                    | [u, v], _ => exact ⟨u, v, rfl⟩
                  exact po_res hn.lab (hall u List.mem_cons_self) (hall v (List.mem_cons_of_mem _ List.mem_cons_self))) hl4
            · obtain ⟨a, ha, hat⟩ : ∃ a : Str, (a = ("forests" : Str) ∨ a = ("determinant" : Str) ∨ a = ("cost" : Str)) ∧ atI [V.str "forests", V.str "determinant", V.str "cost"] ((kd : Int) - 5) = some (.str a) := by
                rcases (show kd = 5 ∨ kd = 6 ∨ kd = 7 by omega) with rfl | rfl | rfl
                · exact ⟨_, .inl rfl, rfl⟩
                · exact ⟨_, .inr (.inl rfl), rfl⟩
                · exact ⟨_, .inr (.inr rfl), rfl⟩
              walk_at "gg"
              refine ⟨le_size (by show 3 ≤ 64; decide), fun m hm => ?_⟩
              walk_at "gg"
              refine g_ixL (.inl (.inl upd_same)) hat ?_
              walk_at "gg"
              exact ⟨two_le, fun lw hlw => fin (ws := [a, nm]) (pt3.new hm) (po_one ha hn.lab) hlw⟩
end
end My
namespace My
open PySem PySem.Spec PyProof.Rows L2 He He5 Go NumT RatA TL TxtA DeqA
local macro_rules | `(tactic| walk_at "gv") => `(tactic| first
  | with_reducible refine g_v0 ?_ | with_reducible refine g_v1 ?_ | with_reducible refine g_v2 ?_ | with_reducible refine g_v3 ?_ | with_reducible refine g_v4 ?_ | with_reducible refine g_v5 ?_
  | with_reducible refine g_v6 ?_ | with_reducible refine g_v7 ?_ | with_reducible refine g_v8 ?_ | with_reducible refine g_v9 ?_ | with_reducible refine g_v10 ?_ | with_reducible refine g_v11 ?_ | with_reducible refine g_v12 ?_)
local macro_rules | `(tactic| walk_at "gn") => `(tactic| first
  | with_reducible refine g_n0 ?_ | with_reducible refine g_n1 ?_ | with_reducible refine g_n2 ?_ | with_reducible refine g_n3 ?_ | with_reducible refine g_n4 ?_ | with_reducible refine g_n5 ?_
  | with_reducible refine g_n6 ?_ | with_reducible refine g_n7 ?_ | with_reducible refine g_n8 ?_ | with_reducible refine g_n9 ?_ | with_reducible refine g_n10 ?_ | with_reducible refine g_n11 ?_ | with_reducible refine g_n12 ?_)
local macro_rules | `(tactic| walk_at "gs") => `(tactic| first
  | with_reducible refine g_asg ?_ | with_reducible refine g_ret ?_ | with_reducible refine g_if ?_ | with_reducible refine g_drop ?_ | with_reducible refine g_next ?_
  | with_reducible refine g_retN ?_ | with_reducible refine g_brk ?_ | with_reducible refine g_cont ?_ | with_reducible refine g_forA ?_ | with_reducible refine g_sfld ?_)
local macro_rules | `(tactic| walk_at "ge") => `(tactic| first
  | with_reducible refine g_c ?_ | with_reducible refine g_op ?_ | with_reducible refine g_test ?_ | with_reducible refine g_bl ?_ | with_reducible refine g_tB ?_ | with_reducible refine g_not ?_
  | with_reducible refine g_and ?_ | with_reducible refine g_or ?_ | with_reducible refine g_notV ?_ | with_reducible refine g_andV ?_ | with_reducible refine g_orV ?_ | with_reducible refine g_ifE ?_
  | with_reducible refine g_un ?_ | with_reducible refine g_chain ?_ | with_reducible refine g_nil ?_ | with_reducible refine g_cons ?_ | with_reducible refine g_tup ?_ | with_reducible refine g_lst ?_
  | with_reducible refine g_cb ?_ | with_reducible refine g_call ?_ | with_reducible refine g_cmeth ?_ | with_reducible refine g_make ?_ | with_reducible refine g_noPart ?_ | with_reducible refine g_part ?_
  | with_reducible refine g_partI ?_ | with_reducible refine g_sl ?_ | with_reducible refine g_m1 ?_ | with_reducible refine g_m0 ?_ | with_reducible refine g_isS ?_ | with_reducible refine g_gsub ?_
  | with_reducible refine g_gcons ?_ | with_reducible refine g_gnil ?_ | with_reducible refine g_bm ?_ | with_reducible refine g_bm0 ?_ | with_reducible refine g_mk ?_ | with_reducible refine g_lc ?_ | with_reducible refine g_fld ?_ | with_reducible refine g_yes ?_)
local macro_rules | `(tactic| walk_at "go_") => `(tactic| first
  | with_reducible refine g_addI ?_ | with_reducible refine g_subI ?_ | with_reducible refine g_ltI ?_ | with_reducible refine g_leI ?_ | with_reducible refine g_gtI ?_ | with_reducible refine g_geI ?_
  | with_reducible refine g_eqI ?_ | with_reducible refine g_eqS ?_ | with_reducible refine g_neI ?_ | with_reducible refine g_neS ?_
  | with_reducible refine g_isNn ?_ | with_reducible refine g_isNi ?_ | with_reducible refine g_isNs ?_ | with_reducible refine g_isNr ?_
  | with_reducible refine g_notNn ?_ | with_reducible refine g_notNi ?_ | with_reducible refine g_notNs ?_ | with_reducible refine g_notNr ?_ | with_reducible refine g_neg ?_
  | with_reducible refine g_inS ?_ | with_reducible refine g_niS ?_ | with_reducible refine g_iteT ?_ | with_reducible refine g_iteF ?_ | with_reducible refine g_iteNT ?_ | with_reducible refine g_iteNF ?_
  | with_reducible refine g_intI ?_ | with_reducible refine g_intB ?_ | with_reducible refine g_gcd ?_ | with_reducible refine g_max2 ?_ | with_reducible refine g_min2 ?_ | with_reducible refine g_stw ?_ | with_reducible refine g_abs ?_
  | with_reducible refine g_iStr ?_ | with_reducible refine g_exS ?_ | with_reducible refine g_iList ?_ | with_reducible refine g_iTup ?_ | with_reducible refine g_iR1 ?_ | with_reducible refine g_iR2 ?_ | with_reducible refine g_exR1 (by omega) (by omega) ?_ | with_reducible refine g_exR2 (by omega) ?_)
local macro_rules | `(tactic| walk_at "go1") => `(tactic| first | walk_at "gs" | with_reducible refine g_seq ?_ | walk_at "gv" | walk_at "ge" | walk_at "gn" | walk_at "go_")
local macro_rules | `(tactic| walk_at "go") => `(tactic| repeat walk_at "go1")
local macro_rules | `(tactic| walk_at "gl") => `(tactic| first
  | with_reducible refine g_lenS (by assumption) ?_ | with_reducible refine g_lenL (by assumption) ?_ | with_reducible refine g_lenT (by assumption) ?_ | with_reducible refine g_exL (by assumption) ?_ | with_reducible refine g_exT (by assumption) ?_)
local macro_rules | `(tactic| walk_at "gw") => `(tactic| repeat (first | walk_at "gs" | walk_at "gv" | walk_at "ge" | walk_at "gn" | walk_at "go_" | walk_at "gl"))
local macro_rules | `(tactic| walk_at "go2") => `(tactic| first | walk_at "go1" | walk_at "gl")
local macro_rules | `(tactic| walk_at "gg") => `(tactic| repeat walk_at "go2")

/-! ### the pot and the stack -/
structure Ps (p l ls : Addr) (H H' : Hp) : Prop where
  but : ∀ b o, H b = some o → b ≠ p → b ≠ ls → H' b = some o
  pot : PotAt H' p l
theorem Ps.refl {p l ls : Addr} {H : Hp} (h : PotAt H p l) : Ps p l ls H H := ⟨fun b o e _ _ => e, h⟩
theorem Ps.trans {p l ls : Addr} {H H1 H2 : Hp} (a : Ps p l ls H H1) (b : Ps p l ls H1 H2) : Ps p l ls H H2 := ⟨fun c o e n1 n2 => b.but c o (a.but c o e n1 n2) n1 n2, b.pot⟩
theorem Ps.pt {p l ls : Addr} {H H1 H2 : Hp} (a : Ps p l ls H H1) (b : Pt p l H1 H2) : Ps p l ls H H2 := ⟨fun c o e n1 n2 => b.but c o (a.but c o e n1 n2) n1, b.pot⟩
theorem Ps.same {p l ls : Addr} {H H1 H2 : Hp} (a : Ps p l ls H H1) (s : Same H1 H2) : Ps p l ls H H2 := ⟨fun c o e n1 n2 => s c o (a.but c o e n1 n2), a.pot.same s⟩
theorem Ps.new {p l ls q : Addr} {H H1 : Hp} {o : HO} (a : Ps p l ls H H1) (h : H1 q = none) : Ps p l ls H (upd H1 q o) := a.same (same_new h o)
theorem Ps.put {p l ls : Addr} {H H1 : Hp} {o : HO} (a : Ps p l ls H H1) (n1 : ls ≠ p) (n2 : ls ≠ l) : Ps p l ls H (upd H1 ls o) := by
  refine ⟨fun b u e m1 m2 => by rw [upd_ne m2]; exact a.but b u e m1 m2, ?_⟩
  obtain ⟨cs, i, v, h1, h2, h3⟩ := a.pot
  exact ⟨cs, i, v, by rw [upd_ne (fun e => n1 e.symm)]; exact h1, by rw [upd_ne (fun e => n2 e.symm)]; exact h2, h3⟩
theorem Ps.free {p l ls q : Addr} {H H1 : Hp} (a : Ps p l ls H H1) (h : H1 q = none) (n : q ≠ ls) : H q = none := by
  have m := (a.pot.ne h).1
  cases e : H q with
  | none => rfl
  | some o =>
    have := a.but q o e m.symm n
    rw [h] at this
    cases this
/-- stacks -/
structure StkOk (S : List Int) : Prop where
  len : S.length ≤ 7
  el : ∀ c ∈ S, c = 1 ∨ c = 2
theorem StkOk.drop {S : List Int} (h : StkOk S) : StkOk S.dropLast := ⟨by rw [List.length_dropLast]; have := h.len; omega, fun c hc => h.el c ((List.dropLast_sublist S).subset hc)⟩
theorem StkOk.add {S : List Int} {c : Int} (h : StkOk S) (h2 : S.length < 7) (hc : c = 1 ∨ c = 2) : StkOk (S ++ [c]) := ⟨by rw [List.length_append, List.length_singleton]; omega, fun d hd => by
  rcases List.mem_append.mp hd with hd | hd
  · exact h.el d hd
  · rw [List.mem_singleton.mp hd]; exact hc⟩
theorem wsOk_app {xs ys : List Str} (a : WsOk xs) (b : WsOk ys) : WsOk (xs ++ ys) := fun y hy => by
  rcases List.mem_append.mp hy with hy | hy
  · exact a y hy
  · exact b y hy
theorem wsOk_nil : WsOk [] := fun y hy => nomatch hy
theorem wsOk_one {x : Str} (h : Wok x) : WsOk [x] := fun y hy => by rw [List.mem_singleton.mp hy]; exact h
theorem wsOk_two {x z : Str} (h : Wok x) (h2 : Wok z) : WsOk [x, z] := fun y hy => by
  rcases List.mem_cons.mp hy with rfl | hy
  · exact h
  · rw [List.mem_singleton.mp hy]; exact h2
theorem run_lg {S : List Int} {s : Int} {a : Str} (ha : a = ("least" : Str) ∨ a = ("greatest" : Str)) (hl : S.length < 12) : runL ⟨S, [("part" : Str)], s⟩ [a, ("(" : Str)] = some ⟨S ++ [2], [("part" : Str)], s⟩ := by
  rw [runL_cons (st_lg ha), runL_cons (b := ⟨S ++ [2], [("part" : Str)], s⟩) (by rw [st_open, if_pos ⟨rfl, by omega⟩])]
  rfl
theorem run_one {a b : StA} {x : Str} (h : stepA a x = some b) : runL a [x] = some b := by
  rw [runL_cons h]
  rfl
section
variable {P : Program} {w : World} {K : PySem.W.Frag} {mg : Str → Option Value} {base : Heap}
def spOpened : Sp := fun vs H Q _ => ∃ (p l ls : Addr) (k : Nat) (S : List Int), vs = [.ref p, .ref ls, .int (k : Int)] ∧ PotAt H p l ∧ k ≤ 100 ∧ H ls = some (.lst (S.map V.int)) ∧ ls ≠ p ∧ ls ≠ l ∧ StkOk S ∧
  ∀ lw ws S' H', StkOk S' → WsOk ws → ws.length ≤ 4 → (∀ s, runL ⟨S, [("part" : Str)], s⟩ ws = some ⟨S', [("part" : Str)], s⟩) → Ps p l ls H H' → H' ls = some (.lst (S'.map V.int)) → H lw = none → H' lw = some (.lst (ws.map V.str)) → Q (.ref lw) H'
theorem ok__law_opened (T : Tx fxL fnL K mg) : FnR P w K mg base (L2.CX P w) 2 (ga K "_law_opened") spOpened := by
  refine fun_ok (F__law_opened T) sc__law_opened (fun _ _ _ _ _ _ us hl => match us, hl with | [_, _, _], _ => rfl) ?_ ?_
  · rintro vs H Q E ⟨p, l, ls, k, S, rfl, _⟩
    rfl
  · rintro cdv A outer s H vs Q E hr ⟨p, l, ls, k, S, rfl, hp, hk, hls, np, nl, hS, q⟩
    refine ⟨_, (pss_cons (ps_set (i := 3) sc__law_opened.nd rfl (Or.inl rfl) (pe_lst pa_nil))
 (pss_cons (ps_for (passes_of rfl) rfl (pi_range1 (by rfl) (z_range T) (pa_cons (pe_op o_mod (pe_callTy (c_int (nd_int T)) (by rfl) (z_int T) (by decide +kernel) (pa_cons (pe_op o_add (pe_callF ((ok__law_digit T).mono (by decide)) hr (takes_of rfl rfl rfl rfl) (by rfl) (gm__law_digit T) (k__law_digit T) (pa_cons (pv 0) (pa_cons pe_int pa_nil))) (pv 2)) pa_nil)) pe_int) pa_nil)) (pg_name (i := 4) sc__law_opened.nd rfl (Or.inl rfl)) (pss_one (ps_if (pt_cmpR o_lt (pe_callB b_len (by rfl) (z_len T) (by decide +kernel) (pa_cons (pv 1) pa_nil)) pe_int (nomark _)) (pss_cons (ps_set (i := 5) sc__law_opened.nd rfl (Or.inl rfl) (pe_op o_mod (pe_callTy (c_int (nd_int T)) (by rfl) (z_int T) (by decide +kernel) (pa_cons (pe_op o_add (pe_op o_add (pe_callF ((ok__law_digit T).mono (by decide)) hr (takes_of rfl rfl rfl rfl) (by rfl) (gm__law_digit T) (k__law_digit T) (pa_cons (pv 0) (pa_cons pe_int pa_nil))) (pv 2)) (pv 4)) pa_nil)) pe_int))
 (pss_one (ps_if (pt_cmpR o_lt (pv 5) pe_int (nomark _)) (pss_cons (ps_set (i := 3) sc__law_opened.nd rfl (Or.inl rfl) (pe_op o_add (pv 3) (pe_lst (pa_cons pe_str pa_nil))))
 (pss_one (ps_expr (pe_bm PySem.F.plainAttrs_list PySem.F.slot_list_append PySem.F.type_list_append mt_append (pv 1) (pa_cons pe_int pa_nil))))) (pss_cons (ps_set (i := 3) sc__law_opened.nd rfl (Or.inl rfl) (pe_op o_add (pv 3) (pe_lst (pa_cons (pe_ix ix_seq (pe_lst (pa_cons pe_str (pa_cons pe_str pa_nil))) (pe_op o_sub (pv 5) pe_int) (fun _ _ => rfl)) (pa_cons pe_str pa_nil)))))
 (pss_one (ps_expr (pe_bm PySem.F.plainAttrs_list PySem.F.slot_list_append PySem.F.type_list_append mt_append (pv 1) (pa_cons pe_int pa_nil)))))))) pss_nil)))
 (pss_one (ps_ret (pv 3))))), ?_⟩
    refine g_start (σ := [some (.ref p), some (.ref ls), some (.int (k : Int)), none, none, none]) rfl ?_
    walk_at "gg"
    refine ⟨nil_le, fun l0 hl0 => ?_⟩
    have pt0 := (Pt.refl hp).new (o := .lst []) hl0
    walk_at "gg"
    refine ⟨p, l, 3, rfl, pt0.pot, by decide, by decide, fun r1 H1 h1 pt1 => ?_⟩
    walk_at "gg"
    refine g_modI (by decide) ?_
    obtain ⟨mn, hmn, hmn2⟩ : ∃ mn : Nat, ((r1 : Int) + (k : Int)) % 3 = (mn : Int) ∧ mn < 3 := ⟨(((r1 : Int) + (k : Int)) % 3).toNat, by omega, by omega⟩
    rw [hmn]
    walk_at "gg"
    rw [Int.toNat_natCast]
    have n0 : ls ≠ l0 := ne_of_none hls hl0
    have n0p : l0 ≠ p := fun e => (hp.ne hl0).1 e.symm
    have ps1 : Ps p l ls H H1 := (Ps.refl hp).pt (pt0.trans pt1)
    refine l_range (fun i σ' H' => ∃ (lw : Addr) (ws : List Str) (S' : List Int) (o1 o2 : Option V), σ' = [some (.ref p), some (.ref ls), some (.int (k : Int)), some (.ref lw), o1, o2] ∧ StkOk S' ∧ WsOk ws ∧ ws.length ≤ 2 * i ∧ (∀ s, runL ⟨S, [("part" : Str)], s⟩ ws = some ⟨S', [("part" : Str)], s⟩) ∧ Ps p l ls H H' ∧ H' ls = some (.lst (S'.map V.int)) ∧ H lw = none ∧ H' lw = some (.lst (ws.map V.str)))
      ⟨l0, [], S, _, _, rfl, hS, wsOk_nil, Nat.zero_le _, fun s => rfl, ps1, (pt0.trans pt1).at hls np, hl0, pt1.at upd_same n0p⟩ ?_ ?_
    · rintro i σ' H2 hi ⟨lw, ws, S', o1, o2, rfl, hS', hws, hwl, hrun, ps, hl2, hlw, hw2⟩
      have nlw : lw ≠ ls := fun e => by rw [e, hls] at hlw; cases hlw
      have nlp : lw ≠ p := fun e => (hp.ne hlw).1 e.symm
      have hmS : (S'.map V.int).length = S'.length := List.length_map _
      walk_at "gg"
      refine g_lenL (.inl (.inl hl2)) ?_
      rw [hmS]
      walk_at "gg"
      refine g_ite (fun c => ?_) (fun c => ?_)
      · have c7 : S'.length < 7 := by omega
        walk_at "gg"
        refine ⟨p, l, 4, rfl, ps.pot, by decide, by decide, fun r2 H3 h3 pt3 => ?_⟩
        walk_at "gg"
        refine g_modI (by decide) ?_
        obtain ⟨kd, hkd, hkd2⟩ : ∃ kd : Nat, ((r2 : Int) + (k : Int) + (0 + (i : Int))) % 4 = (kd : Int) ∧ kd < 4 := ⟨(((r2 : Int) + (k : Int) + (0 + (i : Int))) % 4).toNat, by omega, by omega⟩
        rw [hkd]
        have ps3 := ps.pt pt3
        have hw3 := pt3.at hw2 nlp
        have hl3 := pt3.at hl2 np
        walk_at "gg"
        refine g_ite (fun c2 => ?_) (fun c2 => ?_)
        · walk_at "gg"
          refine ⟨one_le, fun m hm => ?_⟩
          walk_at "gg"
          refine g_addL (by rw [upd_ne (ne_of_none hw3 hm)]; exact hw3) upd_same (by rw [List.length_map, sizeLine_eq]; show _ + 1 ≤ _; omega) fun m2 hm2 => ?_
          have hl4 : (upd H3 m (.lst [V.str "("])) ls = some (.lst (S'.map V.int)) := by rw [upd_ne (ne_of_none hl3 hm)]; exact hl3
          have nm2 : ls ≠ m2 := ne_of_none hl4 hm2
          have ps5 := (ps3.new (o := .lst [V.str "("]) hm).new (o := .lst (ws.map V.str ++ [V.str "("])) hm2
          have hl5 : (upd (upd H3 m (.lst [V.str "("])) m2 (.lst (ws.map V.str ++ [V.str "("]))) ls = some (.lst (S'.map V.int)) := by rw [upd_ne nm2]; exact hl4
          walk_at "gg"
          refine g_tyL (.inl (.inl hl5)) ?_
          walk_at "gg"
          refine g_append hl5 (by rw [hmS, sizeLine_eq]; omega) ?_
          walk_at "gg"
          refine ⟨m2, ws ++ [("(" : Str)], S' ++ [1], _, _, rfl, hS'.add c7 (.inl rfl), wsOk_app hws (wsOk_one wok_by), by rw [List.length_append, List.length_singleton]; omega, fun s => by rw [runL_app (hrun s)]; exact run_one (st_par (by omega)), ps5.put np nl, by rw [upd_same, List.map_append]; rfl, (ps3.new hm).free hm2 nm2.symm, by rw [upd_ne nm2.symm, upd_same, List.map_append]; rfl⟩
        · obtain ⟨a, ha, hat⟩ : ∃ a : Str, (a = ("least" : Str) ∨ a = ("greatest" : Str)) ∧ atI [V.str "least", V.str "greatest"] ((kd : Int) - 2) = some (.str a) := by
            rcases (show kd = 2 ∨ kd = 3 by omega) with rfl | rfl
            · exact ⟨_, .inl rfl, rfl⟩
            · exact ⟨_, .inr rfl, rfl⟩
          have wa : Wok a := by rcases ha with rfl | rfl <;> exact wok_by
          walk_at "gg"
          refine ⟨two_le, fun m0 hm0 => ?_⟩
          have hw4 : (upd H3 m0 (.lst [V.str "least", V.str "greatest"])) lw = some (.lst (ws.map V.str)) := by rw [upd_ne (ne_of_none hw3 hm0)]; exact hw3
          have hl4 : (upd H3 m0 (.lst [V.str "least", V.str "greatest"])) ls = some (.lst (S'.map V.int)) := by rw [upd_ne (ne_of_none hl3 hm0)]; exact hl3
          have ps4 := ps3.new (o := .lst [V.str "least", V.str "greatest"]) hm0
          walk_at "gg"
          refine g_ixL (.inl (.inl upd_same)) hat ?_
          walk_at "gg"
          refine ⟨two_le, fun m hm => ?_⟩
          have ps5 := ps4.new (o := .lst [V.str a, V.str "("]) hm
          have nm : ls ≠ m := ne_of_none hl4 hm
          walk_at "gg"
          refine g_addL (by rw [upd_ne (ne_of_none hw4 hm)]; exact hw4) upd_same (by rw [List.length_map, sizeLine_eq]; show _ + 2 ≤ _; omega) fun m2 hm2 => ?_
          have hl5 : (upd (upd H3 m0 (.lst [V.str "least", V.str "greatest"])) m (.lst [V.str a, V.str "("])) ls = some (.lst (S'.map V.int)) := by rw [upd_ne nm]; exact hl4
          have nm2 : ls ≠ m2 := ne_of_none hl5 hm2
          have ps6 := ps5.new (o := .lst (ws.map V.str ++ [V.str a, V.str "("])) hm2
          have hl6 : (upd (upd (upd H3 m0 (.lst [V.str "least", V.str "greatest"])) m (.lst [V.str a, V.str "("])) m2 (.lst (ws.map V.str ++ [V.str a, V.str "("]))) ls = some (.lst (S'.map V.int)) := by rw [upd_ne nm2]; exact hl5
          walk_at "gg"
          refine g_tyL (.inl (.inl hl6)) ?_
          walk_at "gg"
          refine g_append hl6 (by rw [hmS, sizeLine_eq]; omega) ?_
          walk_at "gg"
          refine ⟨m2, ws ++ [a, ("(" : Str)], S' ++ [2], _, _, rfl, hS'.add c7 (.inr rfl), wsOk_app hws (wsOk_two wa wok_by), by rw [List.length_append]; show _ + 2 ≤ _; omega, fun s => by rw [runL_app (hrun s)]; exact run_lg ha (by omega), ps6.put np nl, by rw [upd_same, List.map_append]; rfl, ps5.free hm2 nm2.symm, by rw [upd_ne nm2.symm, upd_same, List.map_append]; rfl⟩
      · walk_at "gg"
        exact ⟨lw, ws, S', _, _, rfl, hS', hws, by omega, hrun, ps, hl2, hlw, hw2⟩
    · rintro σ' H2 ⟨lw, ws, S', o1, o2, rfl, hS', hws, hwl, hrun, ps, hl2, hlw, hw2⟩
      walk_at "gg"
      exact q lw ws S' _ hS' hws (by omega) hrun ps hl2 hlw hw2
end
end My
namespace My
open PySem PySem.Spec PyProof.Rows L2 He He5 Go NumT RatA TL TxtA DeqA
local macro_rules | `(tactic| walk_at "gv") => `(tactic| first
  | with_reducible refine g_v0 ?_ | with_reducible refine g_v1 ?_ | with_reducible refine g_v2 ?_ | with_reducible refine g_v3 ?_ | with_reducible refine g_v4 ?_ | with_reducible refine g_v5 ?_
  | with_reducible refine g_v6 ?_ | with_reducible refine g_v7 ?_ | with_reducible refine g_v8 ?_ | with_reducible refine g_v9 ?_ | with_reducible refine g_v10 ?_ | with_reducible refine g_v11 ?_ | with_reducible refine g_v12 ?_)
local macro_rules | `(tactic| walk_at "gn") => `(tactic| first
  | with_reducible refine g_n0 ?_ | with_reducible refine g_n1 ?_ | with_reducible refine g_n2 ?_ | with_reducible refine g_n3 ?_ | with_reducible refine g_n4 ?_ | with_reducible refine g_n5 ?_
  | with_reducible refine g_n6 ?_ | with_reducible refine g_n7 ?_ | with_reducible refine g_n8 ?_ | with_reducible refine g_n9 ?_ | with_reducible refine g_n10 ?_ | with_reducible refine g_n11 ?_ | with_reducible refine g_n12 ?_)
local macro_rules | `(tactic| walk_at "gs") => `(tactic| first
  | with_reducible refine g_asg ?_ | with_reducible refine g_ret ?_ | with_reducible refine g_if ?_ | with_reducible refine g_drop ?_ | with_reducible refine g_next ?_
  | with_reducible refine g_retN ?_ | with_reducible refine g_brk ?_ | with_reducible refine g_cont ?_ | with_reducible refine g_forA ?_ | with_reducible refine g_sfld ?_)
local macro_rules | `(tactic| walk_at "ge") => `(tactic| first
  | with_reducible refine g_c ?_ | with_reducible refine g_op ?_ | with_reducible refine g_test ?_ | with_reducible refine g_bl ?_ | with_reducible refine g_tB ?_ | with_reducible refine g_not ?_
  | with_reducible refine g_and ?_ | with_reducible refine g_or ?_ | with_reducible refine g_notV ?_ | with_reducible refine g_andV ?_ | with_reducible refine g_orV ?_ | with_reducible refine g_ifE ?_
  | with_reducible refine g_un ?_ | with_reducible refine g_chain ?_ | with_reducible refine g_nil ?_ | with_reducible refine g_cons ?_ | with_reducible refine g_tup ?_ | with_reducible refine g_lst ?_
  | with_reducible refine g_cb ?_ | with_reducible refine g_call ?_ | with_reducible refine g_cmeth ?_ | with_reducible refine g_make ?_ | with_reducible refine g_noPart ?_ | with_reducible refine g_part ?_
  | with_reducible refine g_partI ?_ | with_reducible refine g_sl ?_ | with_reducible refine g_m1 ?_ | with_reducible refine g_m0 ?_ | with_reducible refine g_isS ?_ | with_reducible refine g_gsub ?_
  | with_reducible refine g_gcons ?_ | with_reducible refine g_gnil ?_ | with_reducible refine g_bm ?_ | with_reducible refine g_bm0 ?_ | with_reducible refine g_mk ?_ | with_reducible refine g_lc ?_ | with_reducible refine g_fld ?_ | with_reducible refine g_yes ?_)
local macro_rules | `(tactic| walk_at "go_") => `(tactic| first
  | with_reducible refine g_addI ?_ | with_reducible refine g_subI ?_ | with_reducible refine g_ltI ?_ | with_reducible refine g_leI ?_ | with_reducible refine g_gtI ?_ | with_reducible refine g_geI ?_
  | with_reducible refine g_eqI ?_ | with_reducible refine g_eqS ?_ | with_reducible refine g_neI ?_ | with_reducible refine g_neS ?_
  | with_reducible refine g_isNn ?_ | with_reducible refine g_isNi ?_ | with_reducible refine g_isNs ?_ | with_reducible refine g_isNr ?_
  | with_reducible refine g_notNn ?_ | with_reducible refine g_notNi ?_ | with_reducible refine g_notNs ?_ | with_reducible refine g_notNr ?_ | with_reducible refine g_neg ?_
  | with_reducible refine g_inS ?_ | with_reducible refine g_niS ?_ | with_reducible refine g_iteT ?_ | with_reducible refine g_iteF ?_ | with_reducible refine g_iteNT ?_ | with_reducible refine g_iteNF ?_
  | with_reducible refine g_intI ?_ | with_reducible refine g_intB ?_ | with_reducible refine g_gcd ?_ | with_reducible refine g_max2 ?_ | with_reducible refine g_min2 ?_ | with_reducible refine g_stw ?_ | with_reducible refine g_abs ?_
  | with_reducible refine g_iStr ?_ | with_reducible refine g_exS ?_ | with_reducible refine g_iList ?_ | with_reducible refine g_iTup ?_ | with_reducible refine g_iR1 ?_ | with_reducible refine g_iR2 ?_ | with_reducible refine g_exR1 (by omega) (by omega) ?_ | with_reducible refine g_exR2 (by omega) ?_)
local macro_rules | `(tactic| walk_at "go1") => `(tactic| first | walk_at "gs" | with_reducible refine g_seq ?_ | walk_at "gv" | walk_at "ge" | walk_at "gn" | walk_at "go_")
local macro_rules | `(tactic| walk_at "go") => `(tactic| repeat walk_at "go1")
local macro_rules | `(tactic| walk_at "gl") => `(tactic| first
  | with_reducible refine g_lenS (by assumption) ?_ | with_reducible refine g_lenL (by assumption) ?_ | with_reducible refine g_lenT (by assumption) ?_ | with_reducible refine g_exL (by assumption) ?_ | with_reducible refine g_exT (by assumption) ?_)
local macro_rules | `(tactic| walk_at "gw") => `(tactic| repeat (first | walk_at "gs" | walk_at "gv" | walk_at "ge" | walk_at "gn" | walk_at "go_" | walk_at "gl"))
local macro_rules | `(tactic| walk_at "go2") => `(tactic| first | walk_at "go1" | walk_at "gl")
local macro_rules | `(tactic| walk_at "gg") => `(tactic| repeat walk_at "go2")

/-- what is due behind the closing words -/
def dueC (ws : List Str) : List Str := if ws.getLast? = some ("," : Str) then ["part"] else ["after"]
structure ClosedOk (S : List Int) (ws : List Str) (S' : List Int) : Prop where
  stk : StkOk S'
  ok : WsOk ws
  len : ws.length ≤ 3
  run : ∀ s, runL ⟨S, [("after" : Str)], s⟩ ws = some ⟨S', dueC ws, s⟩
theorem dueC_comma (ws : List Str) : dueC (ws ++ [("," : Str)]) = [("part" : Str)] := by
  unfold dueC
  rw [List.getLast?_concat, if_pos rfl]
theorem dueC_par (ws : List Str) : dueC (ws ++ [(")" : Str)]) = [("after" : Str)] := by
  unfold dueC
  rw [List.getLast?_concat, if_neg (by decide +kernel)]
theorem atI_last {S : List Int} {c : Int} (h : S.getLast? = some c) : atI (S.map V.int) (-1) = some (.int c) := by
  have e := last_split h
  have hp : 0 < S.length := by rw [e, List.length_append, List.length_singleton]; omega
  unfold atI
  have : ixN (S.map V.int).length (-1) = some (S.length - 1) := by
    unfold ixN
    rw [if_neg (by decide), List.length_map, if_pos (by omega)]
    refine congrArg some ?_
    omega
  rw [this, Option.bind_some, List.getElem?_map, ← List.getLast?_eq_getElem?, h]
  rfl
theorem wok_words {ws : List Str} (h : WsOk ws) : ∀ x ∈ ws, asc x = true := fun x hx => (h x hx).asc
section
variable {P : Program} {w : World} {K : PySem.W.Frag} {mg : Str → Option Value} {base : Heap}
def spClosed : Sp := fun vs H Q _ => ∃ (p l ls : Addr) (S : List Int), vs = [.ref p, .ref ls] ∧ PotAt H p l ∧ H ls = some (.lst (S.map V.int)) ∧ ls ≠ p ∧ ls ≠ l ∧ StkOk S ∧
  ∀ lw ws S' H', ClosedOk S ws S' → Ps p l ls H H' → H' ls = some (.lst (S'.map V.int)) → H lw = none → H' lw = some (.lst (ws.map V.str)) → Q (.ref lw) H'
theorem ok__law_closed (T : Tx fxL fnL K mg) : FnR P w K mg base (L2.CX P w) 2 (ga K "_law_closed") spClosed := by
  refine fun_ok (F__law_closed T) sc__law_closed (fun _ _ _ _ _ _ us hl => match us, hl with | [_, _], _ => rfl) ?_ ?_
  · rintro vs H Q E ⟨p, l, ls, S, rfl, _⟩
    rfl
  · rintro cdv A outer s H vs Q E hr ⟨p, l, ls, S, rfl, hp, hls, np, nl, hS, q⟩
    refine ⟨_, (pss_cons (ps_set (i := 2) sc__law_closed.nd rfl (Or.inl rfl) (pe_lst pa_nil))
 (pss_cons (ps_for (passes_of rfl) rfl (pi_range1 (by rfl) (z_range T) (pa_cons (pe_op o_mod (pe_callTy (c_int (nd_int T)) (by rfl) (z_int T) (by decide +kernel) (pa_cons (pe_op o_add (pe_callF ((ok__law_digit T).mono (by decide)) hr (takes_of rfl rfl rfl rfl) (by rfl) (gm__law_digit T) (k__law_digit T) (pa_cons (pv 0) (pa_cons pe_int pa_nil))) pe_int) pa_nil)) pe_int) pa_nil)) (pg_name (i := 3) sc__law_closed.nd rfl (Or.inl rfl)) (pss_cons (ps_if (PW.pt (pw_or (pt_cmpR (o_eq hr.units) (pv 1) (pe_lst pa_nil) (nomark _)) (pw_or1 (pt_cmpR (o_eq hr.units) (pe_slice o_sl (pv 2) (po_some (pe_un un_neg pe_int)) po_none) (pe_lst (pa_cons pe_str pa_nil)) (nomark _))))) (pss_one ps_break) pss_nil)
 (pss_one (ps_if (pt_cmpR (o_eq hr.units) (pe_ix ix_seq (pv 1) (pe_un un_neg pe_int) (fun _ _ => rfl)) pe_int (nomark _)) (pss_cons (ps_asg pe_int (pg_sub (pv 1) (pe_un un_neg pe_int) set_list))
 (pss_one (ps_set (i := 2) sc__law_closed.nd rfl (Or.inl rfl) (pe_op o_add (pv 2) (pe_lst (pa_cons pe_str pa_nil)))))) (pss_cons (ps_expr (pe_bm0 PySem.F.plainAttrs_list PySem.F.slot_list_pop PySem.F.type_list_pop mt_pop (pv 1)))
 (pss_one (ps_set (i := 2) sc__law_closed.nd rfl (Or.inl rfl) (pe_op o_add (pv 2) (pe_lst (pa_cons pe_str pa_nil))))))))))
 (pss_one (ps_ret (pv 2))))), ?_⟩
    refine g_start (σ := [some (.ref p), some (.ref ls), none, none]) rfl ?_
    refine g_seqK (fun σ' H' => ∃ (l0 : Addr), σ' = [some (.ref p), some (.ref ls), some (.ref l0), none] ∧ H l0 = none ∧ H' = upd H l0 (.lst [])) ?_ ?_
    · rintro σ' H' ⟨l0, rfl, hl0, rfl⟩
      have pt0 := (Pt.refl hp).new (o := .lst []) hl0
      refine g_seqK (fun σ' H' => ∃ (lw : Addr) (ws : List Str) (S' : List Int) (o1 : Option V), σ' = [some (.ref p), some (.ref ls), some (.ref lw), o1] ∧ ClosedOk S ws S' ∧ Ps p l ls H H' ∧ H' ls = some (.lst (S'.map V.int)) ∧ H lw = none ∧ H' lw = some (.lst (ws.map V.str))) ?_ ?_
      · rintro σ' H2 ⟨lw, ws, S', o1, rfl, ok, ps, hl2, hlw, hw2⟩
        walk_at "gg"
        exact q lw ws S' _ ok ps hl2 hlw hw2
      intro N hN
      walk_at "gg"
      refine ⟨p, l, 4, rfl, pt0.pot, by decide, by decide, fun r1 H1 h1 pt1 => ?_⟩
      walk_at "gg"
      refine g_modI (by decide) ?_
      obtain ⟨mn, hmn, hmn2⟩ : ∃ mn : Nat, ((r1 : Int) + 1) % 4 = (mn : Int) ∧ mn < 4 := ⟨(((r1 : Int) + 1) % 4).toNat, by omega, by omega⟩
      rw [hmn]
      walk_at "gg"
      rw [Int.toNat_natCast]
      have n0 : ls ≠ l0 := ne_of_none hls hl0
      have n0p : l0 ≠ p := fun e => (hp.ne hl0).1 e.symm
      have ps1 : Ps p l ls H H1 := (Ps.refl hp).pt (pt0.trans pt1)
      refine l_range (fun i σ' H' => ∃ (lw : Addr) (ws : List Str) (S' : List Int) (o1 : Option V), σ' = [some (.ref p), some (.ref ls), some (.ref lw), o1] ∧ StkOk S' ∧ WsOk ws ∧ ws.length ≤ i ∧ i ≤ mn ∧ (∀ s, runL ⟨S, [("after" : Str)], s⟩ ws = some ⟨S', dueC ws, s⟩) ∧ Ps p l ls H H' ∧ H' ls = some (.lst (S'.map V.int)) ∧ H lw = none ∧ H' lw = some (.lst (ws.map V.str)))
        ⟨l0, [], S, _, rfl, hS, wsOk_nil, Nat.zero_le _, Nat.zero_le _, fun s => rfl, ps1, (pt0.trans pt1).at hls np, hl0, pt1.at upd_same n0p⟩ ?_ ?_
      · rintro i σ' H2 hi ⟨lw, ws, S', o1, rfl, hS', hws, hwl, him, hrun, ps, hl2, hlw, hw2⟩
        have nlw : lw ≠ ls := fun e => by rw [e, hls] at hlw; cases hlw
        have nlp : lw ≠ p := fun e => (hp.ne hlw).1 e.symm
        have hmS : (S'.map V.int).length = S'.length := List.length_map _
        have ok : ClosedOk S ws S' := ⟨hS', hws, by omega, hrun⟩
        walk_at "gg"
        refine ⟨nil_le, fun m1 hm1 => ?_⟩
        have ps3 := ps.new (o := .lst []) hm1
        have hl3 : (upd H2 m1 (.lst [])) ls = some (.lst (S'.map V.int)) := by rw [upd_ne (ne_of_none hl2 hm1)]; exact hl2
        have hw3 : (upd H2 m1 (.lst [])) lw = some (.lst (ws.map V.str)) := by rw [upd_ne (ne_of_none hw2 hm1)]; exact hw2
        walk_at "gg"
        refine g_eqLI (xs := S') (ys := []) (.inl (.inl hl3)) (.inl (.inl upd_same)) ?_
        walk_at "gg"
        refine g_ite (fun c => ?_) (fun c => ?_)
        · walk_at "gg"
          exact hN _ _ ⟨lw, ws, S', _, rfl, ok, ps3, hl3, hlw, hw3⟩
        · walk_at "gg"
          refine .inl ⟨lw, _, rfl, .inl (.inl hw3), fun m2 hm2 => ?_⟩
          rw [cut_lastS]
          have ps4 := ps3.new (o := .lst ((ws.drop (ws.length - 1)).map V.str)) hm2
          have hl4 : (upd (upd H2 m1 (.lst [])) m2 (.lst ((ws.drop (ws.length - 1)).map V.str))) ls = some (.lst (S'.map V.int)) := by rw [upd_ne (ne_of_none hl3 hm2)]; exact hl3
          have hw4 : (upd (upd H2 m1 (.lst [])) m2 (.lst ((ws.drop (ws.length - 1)).map V.str))) lw = some (.lst (ws.map V.str)) := by rw [upd_ne (ne_of_none hw3 hm2)]; exact hw3
          walk_at "gg"
          refine ⟨one_le, fun m3 hm3 => ?_⟩
          have ps5 := ps4.new (o := .lst [V.str ","]) hm3
          generalize hH5 : upd (upd (upd H2 m1 (.lst [])) m2 (.lst ((ws.drop (ws.length - 1)).map V.str))) m3 (.lst [V.str ","]) = H5 at *
          have hl5 : H5 ls = some (.lst (S'.map V.int)) := by rw [← hH5, upd_ne (ne_of_none hl4 hm3)]; exact hl4
          have hw5 : H5 lw = some (.lst (ws.map V.str)) := by rw [← hH5, upd_ne (ne_of_none hw4 hm3)]; exact hw4
          have hm25 : H5 m2 = some (.lst ((ws.drop (ws.length - 1)).map V.str)) := by rw [← hH5, upd_ne (ne_of_none upd_same hm3)]; exact upd_same
          have hm35 : H5 m3 = some (.lst [V.str ","]) := by rw [← hH5]; exact upd_same
          walk_at "gg"
          refine g_eqLS (xs := ws.drop (ws.length - 1)) (ys := [","]) (.inl (.inl hm25)) (.inl (.inl hm35)) (fun x hx => wok_words hws x (List.mem_of_mem_drop hx)) (by decide +kernel) ?_
          rw [decide_eq_decide.mpr (last_iff ws (("," : Str)))]
          walk_at "gg"
          refine g_ite (fun c2 => ?_) (fun c2 => ?_)
          · walk_at "gg"
            exact hN _ _ ⟨lw, ws, S', _, rfl, ok, ps5, hl5, hlw, hw5⟩
          · have hdue : dueC ws = [("after" : Str)] := if_neg c2
            rw [hdue] at hrun
            obtain ⟨top, htop⟩ : ∃ c, S'.getLast? = some c := by
              rcases List.eq_nil_or_concat S' with e | ⟨L, b, e⟩
              · exact absurd e c
              · exact ⟨b, by rw [e, List.concat_eq_append, List.getLast?_concat]⟩
            have eS := last_split htop
            walk_at "gg"
            refine g_ixL (.inl (.inl hl5)) (atI_last htop) ?_
            walk_at "gg"
            refine g_ite (fun c3 => ?_) (fun c3 => ?_)
            · subst c3
              have hset : (S'.map V.int).set S'.dropLast.length (V.int 1) = (S'.dropLast ++ [1]).map V.int := by
                conv => lhs; rw [eS]
                rw [List.map_append, List.map_append, List.dropLast_concat, List.set_append_right _ _ (by rw [List.length_map]; exact Nat.le_refl _), List.length_map, Nat.sub_self]
                rfl
              walk_at "gg"
              refine g_setL (j := S'.dropLast.length) hl5 ?_ ?_
              · rw [hmS, eS]
                unfold ixN
                rw [if_neg (by decide), List.length_append, List.length_singleton, if_pos (by omega)]
                refine congrArg some ?_
                rw [List.dropLast_concat]
                omega
              · rw [hset]
                have ps6 := ps5.put (o := .lst ((S'.dropLast ++ [1]).map V.int)) np nl
                have hw6 : (upd H5 ls (.lst ((S'.dropLast ++ [1]).map V.int))) lw = some (.lst (ws.map V.str)) := by rw [upd_ne nlw]; exact hw5
                walk_at "gg"
                refine ⟨one_le, fun m6 hm6 => ?_⟩
                have ps7 := ps6.new (o := .lst [V.str ","]) hm6
                walk_at "gg"
                refine g_addL (by rw [upd_ne (ne_of_none hw6 hm6)]; exact hw6) upd_same (by rw [List.length_map, sizeLine_eq]; show _ + 1 ≤ _; omega) fun m7 hm7 => ?_
                have hl7 : (upd (upd H5 ls (.lst ((S'.dropLast ++ [1]).map V.int))) m6 (.lst [V.str ","])) ls = some (.lst ((S'.dropLast ++ [1]).map V.int)) := by rw [upd_ne (ne_of_none upd_same hm6)]; exact upd_same
                have n7 : ls ≠ m7 := ne_of_none hl7 hm7
                walk_at "gg"
                refine ⟨m7, ws ++ [("," : Str)], S'.dropLast ++ [1], _, rfl, hS'.drop.add ?_ (.inl rfl), wsOk_app hws (wsOk_one wok_by), by rw [List.length_append, List.length_singleton]; omega, hi, fun s => ?_, ps7.new hm7, by rw [upd_ne n7]; exact hl7, ps7.free hm7 n7.symm, by rw [upd_same, List.map_append]; rfl⟩
                · have := hS'.len
                  have e2 := congrArg List.length eS
                  rw [List.length_append, List.length_singleton] at e2
                  omega
                · rw [runL_app (hrun s), dueC_comma]
                  refine run_one ?_
                  rw [eS, List.dropLast_concat]
                  exact st_comma
            · have htop1 : top = 1 := by
                rcases hS'.el top (List.mem_of_getLast? htop) with h | h
                · exact h
                · exact absurd h c3
              subst htop1
              walk_at "gg"
              refine g_tyL (.inl (.inl hl5)) ?_
              refine ⟨ls, _, V.int 1, rfl, rfl, hl5, ?_, ?_⟩
              · rw [List.getElem?_map, hmS, ← List.getLast?_eq_getElem?, htop]
                rfl
              · rw [← List.map_dropLast]
                have ps6 := ps5.put (o := .lst (S'.dropLast.map V.int)) np nl
                have hw6 : (upd H5 ls (.lst (S'.dropLast.map V.int))) lw = some (.lst (ws.map V.str)) := by rw [upd_ne nlw]; exact hw5
                walk_at "gg"
                refine ⟨one_le, fun m6 hm6 => ?_⟩
                have ps7 := ps6.new (o := .lst [V.str ")"]) hm6
                walk_at "gg"
                refine g_addL (by rw [upd_ne (ne_of_none hw6 hm6)]; exact hw6) upd_same (by rw [List.length_map, sizeLine_eq]; show _ + 1 ≤ _; omega) fun m7 hm7 => ?_
                have hl7 : (upd (upd H5 ls (.lst (S'.dropLast.map V.int))) m6 (.lst [V.str ")"])) ls = some (.lst (S'.dropLast.map V.int)) := by rw [upd_ne (ne_of_none upd_same hm6)]; exact upd_same
                have n7 : ls ≠ m7 := ne_of_none hl7 hm7
                walk_at "gg"
                refine ⟨m7, ws ++ [(")" : Str)], S'.dropLast, _, rfl, hS'.drop, wsOk_app hws (wsOk_one wok_by), by rw [List.length_append, List.length_singleton]; omega, hi, fun s => ?_, ps7.new hm7, by rw [upd_ne n7]; exact hl7, ps7.free hm7 n7.symm, by rw [upd_same, List.map_append]; rfl⟩
                rw [runL_app (hrun s), dueC_par]
                refine run_one ?_
                conv => lhs; rw [eS]
                exact st_close
      · rintro σ' H2 ⟨lw, ws, S', o1, rfl, hS', hws, hwl, him, hrun, ps, hl2, hlw, hw2⟩
        exact hN _ _ ⟨lw, ws, S', _, rfl, ⟨hS', hws, by omega, hrun⟩, ps, hl2, hlw, hw2⟩
    · intro N hN
      walk_at "gg"
      refine ⟨nil_le, fun l0 hl0 => ?_⟩
      walk_at "gg"
      exact hN _ _ ⟨l0, rfl, hl0, rfl⟩
end
end My
namespace My
open PySem PySem.Spec PyProof.Rows L2 He He5 Go NumT RatA TL TxtA DeqA
local macro_rules | `(tactic| walk_at "gv") => `(tactic| first
  | with_reducible refine g_v0 ?_ | with_reducible refine g_v1 ?_ | with_reducible refine g_v2 ?_ | with_reducible refine g_v3 ?_ | with_reducible refine g_v4 ?_ | with_reducible refine g_v5 ?_
  | with_reducible refine g_v6 ?_ | with_reducible refine g_v7 ?_ | with_reducible refine g_v8 ?_ | with_reducible refine g_v9 ?_ | with_reducible refine g_v10 ?_ | with_reducible refine g_v11 ?_ | with_reducible refine g_v12 ?_)
local macro_rules | `(tactic| walk_at "gn") => `(tactic| first
  | with_reducible refine g_n0 ?_ | with_reducible refine g_n1 ?_ | with_reducible refine g_n2 ?_ | with_reducible refine g_n3 ?_ | with_reducible refine g_n4 ?_ | with_reducible refine g_n5 ?_
  | with_reducible refine g_n6 ?_ | with_reducible refine g_n7 ?_ | with_reducible refine g_n8 ?_ | with_reducible refine g_n9 ?_ | with_reducible refine g_n10 ?_ | with_reducible refine g_n11 ?_ | with_reducible refine g_n12 ?_)
local macro_rules | `(tactic| walk_at "gs") => `(tactic| first
  | with_reducible refine g_asg ?_ | with_reducible refine g_ret ?_ | with_reducible refine g_if ?_ | with_reducible refine g_drop ?_ | with_reducible refine g_next ?_
  | with_reducible refine g_retN ?_ | with_reducible refine g_brk ?_ | with_reducible refine g_cont ?_ | with_reducible refine g_forA ?_ | with_reducible refine g_sfld ?_)
local macro_rules | `(tactic| walk_at "ge") => `(tactic| first
  | with_reducible refine g_c ?_ | with_reducible refine g_op ?_ | with_reducible refine g_test ?_ | with_reducible refine g_bl ?_ | with_reducible refine g_tB ?_ | with_reducible refine g_not ?_
  | with_reducible refine g_and ?_ | with_reducible refine g_or ?_ | with_reducible refine g_notV ?_ | with_reducible refine g_andV ?_ | with_reducible refine g_orV ?_ | with_reducible refine g_ifE ?_
  | with_reducible refine g_un ?_ | with_reducible refine g_chain ?_ | with_reducible refine g_nil ?_ | with_reducible refine g_cons ?_ | with_reducible refine g_tup ?_ | with_reducible refine g_lst ?_
  | with_reducible refine g_cb ?_ | with_reducible refine g_call ?_ | with_reducible refine g_cmeth ?_ | with_reducible refine g_make ?_ | with_reducible refine g_noPart ?_ | with_reducible refine g_part ?_
  | with_reducible refine g_partI ?_ | with_reducible refine g_sl ?_ | with_reducible refine g_m1 ?_ | with_reducible refine g_m0 ?_ | with_reducible refine g_isS ?_ | with_reducible refine g_gsub ?_
  | with_reducible refine g_gcons ?_ | with_reducible refine g_gnil ?_ | with_reducible refine g_bm ?_ | with_reducible refine g_bm0 ?_ | with_reducible refine g_mk ?_ | with_reducible refine g_lc ?_ | with_reducible refine g_fld ?_ | with_reducible refine g_yes ?_)
local macro_rules | `(tactic| walk_at "go_") => `(tactic| first
  | with_reducible refine g_addI ?_ | with_reducible refine g_subI ?_ | with_reducible refine g_ltI ?_ | with_reducible refine g_leI ?_ | with_reducible refine g_gtI ?_ | with_reducible refine g_geI ?_
  | with_reducible refine g_eqI ?_ | with_reducible refine g_eqS ?_ | with_reducible refine g_neI ?_ | with_reducible refine g_neS ?_
  | with_reducible refine g_isNn ?_ | with_reducible refine g_isNi ?_ | with_reducible refine g_isNs ?_ | with_reducible refine g_isNr ?_
  | with_reducible refine g_notNn ?_ | with_reducible refine g_notNi ?_ | with_reducible refine g_notNs ?_ | with_reducible refine g_notNr ?_ | with_reducible refine g_neg ?_
  | with_reducible refine g_inS ?_ | with_reducible refine g_niS ?_ | with_reducible refine g_iteT ?_ | with_reducible refine g_iteF ?_ | with_reducible refine g_iteNT ?_ | with_reducible refine g_iteNF ?_
  | with_reducible refine g_intI ?_ | with_reducible refine g_intB ?_ | with_reducible refine g_gcd ?_ | with_reducible refine g_max2 ?_ | with_reducible refine g_min2 ?_ | with_reducible refine g_stw ?_ | with_reducible refine g_abs ?_
  | with_reducible refine g_iStr ?_ | with_reducible refine g_exS ?_ | with_reducible refine g_iList ?_ | with_reducible refine g_iTup ?_ | with_reducible refine g_iR1 ?_ | with_reducible refine g_iR2 ?_ | with_reducible refine g_exR1 (by omega) (by omega) ?_ | with_reducible refine g_exR2 (by omega) ?_)
local macro_rules | `(tactic| walk_at "go1") => `(tactic| first | walk_at "gs" | with_reducible refine g_seq ?_ | walk_at "gv" | walk_at "ge" | walk_at "gn" | walk_at "go_")
local macro_rules | `(tactic| walk_at "go") => `(tactic| repeat walk_at "go1")
local macro_rules | `(tactic| walk_at "gl") => `(tactic| first
  | with_reducible refine g_lenS (by assumption) ?_ | with_reducible refine g_lenL (by assumption) ?_ | with_reducible refine g_lenT (by assumption) ?_ | with_reducible refine g_exL (by assumption) ?_ | with_reducible refine g_exT (by assumption) ?_)
local macro_rules | `(tactic| walk_at "gw") => `(tactic| repeat (first | walk_at "gs" | walk_at "gv" | walk_at "ge" | walk_at "gn" | walk_at "go_" | walk_at "gl"))
local macro_rules | `(tactic| walk_at "go2") => `(tactic| first | walk_at "go1" | walk_at "gl")
local macro_rules | `(tactic| walk_at "gg") => `(tactic| repeat walk_at "go2")

/-- the heap while a question is made -/
structure Fr (p l ls lw : Addr) (H H' : Hp) (S : List Int) (ws : List Str) : Prop where
  p0 : PotAt H p l
  s0 : H ls = none
  ps : Ps p l ls H H'
  stk : H' ls = some (.lst (S.map V.int))
  wrd : H' lw = some (.lst (ws.map V.str))
  fr : H lw = none
  ne : lw ≠ ls
section
variable {p l ls lw q : Addr} {H H' H2 : Hp} {S S2 : List Int} {ws ws2 : List Str} {o : HO}
theorem Fr.np (f : Fr p l ls lw H H' S ws) : ls ≠ p := fun e => (f.p0.ne f.s0).1 e.symm
theorem Fr.nl (f : Fr p l ls lw H H' S ws) : ls ≠ l := fun e => (f.p0.ne f.s0).2 e.symm
theorem Fr.lp (f : Fr p l ls lw H H' S ws) : lw ≠ p := fun e => (f.p0.ne f.fr).1 e.symm
theorem Fr.new (f : Fr p l ls lw H H' S ws) (h : H' q = none) : Fr p l ls lw H (upd H' q o) S ws :=
  ⟨f.p0, f.s0, f.ps.new h, by rw [upd_ne (ne_of_none f.stk h)]; exact f.stk, by rw [upd_ne (ne_of_none f.wrd h)]; exact f.wrd, f.fr, f.ne⟩
theorem Fr.add (f : Fr p l ls lw H H' S ws) (h : H' q = none) (e : xs = ws2.map V.str) : Fr p l ls q H (upd H' q (.lst xs)) S ws2 := by
  have n : ls ≠ q := ne_of_none f.stk h
  exact ⟨f.p0, f.s0, f.ps.new h, by rw [upd_ne n]; exact f.stk, by rw [upd_same, e], f.ps.free h n.symm, n.symm⟩
theorem Fr.pt (f : Fr p l ls lw H H' S ws) (h : Pt p l H' H2) : Fr p l ls lw H H2 S ws :=
  ⟨f.p0, f.s0, f.ps.pt h, h.at f.stk f.np, h.at f.wrd f.lp, f.fr, f.ne⟩
theorem Fr.st (f : Fr p l ls lw H H' S ws) (h : Ps p l ls H' H2) (e : H2 ls = some (.lst (S2.map V.int))) : Fr p l ls lw H H2 S2 ws :=
  ⟨f.p0, f.s0, f.ps.trans h, e, h.but _ _ f.wrd f.lp f.ne, f.fr, f.ne⟩
theorem Fr.out (f : Fr p l ls lw H H' S ws) : Pt p l H H' := ⟨fun b o e n => f.ps.but b o e n (ne_of_none e f.s0), f.ps.pot⟩
end
/-- a question -/
structure QOk (ws : List Str) : Prop where
  ok : WsOk ws
  pos : ws ≠ []
  len : ws.length ≤ 150
  run : ∃ s, runL initA ws = some ⟨[], [("after" : Str)], s⟩
def dueAt (i many : Nat) : List Str := if i = many then [("after" : Str)] else [("part" : Str)]
theorem sign_step {S : List Int} {s : Int} {x : Str} (h : x = ("+" : Str) ∨ x = ("*" : Str) ∨ x = ("-" : Str)) : stepA ⟨S, [("after" : Str)], s⟩ x = some ⟨S, [("part" : Str)], s⟩ := st_op (by rcases h with h | h | h <;> simp [h])
theorem half_rat : isR ("1/2" : Str) = true := by decide +kernel
theorem run_close2 {S : List Int} {s : Int} : runL ⟨S ++ [2], [("after" : Str)], s⟩ [("," : Str), ("1/2" : Str), (")" : Str)] = some ⟨S, [("after" : Str)], s⟩ := by
  rw [runL_cons st_comma, runL_cons (st_rat (by decide +kernel) half_rat), runL_cons st_close]
  rfl
section
variable {P : Program} {w : World} {K : PySem.W.Frag} {mg : Str → Option Value} {base : Heap}
def spQuest : Sp := fun vs H Q _ => ∃ (p l : Addr), vs = [.ref p] ∧ PotAt H p l ∧ ∀ lw ws H', QOk ws → Pt p l H H' → H lw = none → H' lw = some (.lst (ws.map V.str)) → Q (.ref lw) H'
theorem szS {xs ys : List Str} (h : xs.length + ys.length ≤ 10000) : (xs.map V.str).length + (ys.map V.str).length ≤ sizeLine := by
  rw [List.length_map, List.length_map, sizeLine_eq]
  omega
theorem mapS {xs ys : List Str} : xs.map V.str ++ ys.map V.str = (xs ++ ys).map V.str := (List.map_append).symm
theorem ok__law_question (T : Tx fxL fnL K mg) : FnR P w K mg base (L2.CX P w) 4 (ga K "_law_question") spQuest := by
  refine fun_ok (F__law_question T) sc__law_question (fun _ _ _ _ _ _ us hl => match us, hl with | [_], _ => rfl) ?_ ?_
  · rintro vs H Q E ⟨p, l, rfl, _⟩
    rfl
  · rintro cdv A outer s H vs Q E hr ⟨p, l, rfl, hp, q⟩
    refine ⟨_, (pss_cons (ps_set (i := 1) sc__law_question.nd rfl (Or.inl rfl) (pe_lst pa_nil))
 (pss_cons (ps_set (i := 2) sc__law_question.nd rfl (Or.inl rfl) (pe_lst pa_nil))
 (pss_cons (ps_set (i := 3) sc__law_question.nd rfl (Or.inl rfl) (pe_op o_add pe_int (pe_op o_mod (pe_callTy (c_int (nd_int T)) (by rfl) (z_int T) (by decide +kernel) (pa_cons (pe_op o_add (pe_callF ((ok__law_digit T).mono (by decide)) hr (takes_of rfl rfl rfl rfl) (by rfl) (gm__law_digit T) (k__law_digit T) (pa_cons (pv 0) (pa_cons pe_int pa_nil))) pe_int) pa_nil)) pe_int)))
 (pss_cons (ps_set (i := 4) sc__law_question.nd rfl (Or.inl rfl) (pe_op o_mod (pe_callTy (c_int (nd_int T)) (by rfl) (z_int T) (by decide +kernel) (pa_cons (pe_op o_add (pe_callF ((ok__law_digit T).mono (by decide)) hr (takes_of rfl rfl rfl rfl) (by rfl) (gm__law_digit T) (k__law_digit T) (pa_cons (pv 0) (pa_cons pe_int pa_nil))) pe_int) pa_nil)) pe_int))
 (pss_cons (ps_for (passes_of rfl) rfl (pi_range1 (by rfl) (z_range T) (pa_cons (pv 3) pa_nil)) (pg_name (i := 5) sc__law_question.nd rfl (Or.inl rfl)) (pss_cons (ps_set (i := 1) sc__law_question.nd rfl (Or.inl rfl) (pe_op o_add (pv 1) (pe_callF ((ok__law_opened T).mono (by decide)) hr (takes_of rfl rfl rfl rfl) (by rfl) (gm__law_opened T) (k__law_opened T) (pa_cons (pv 0) (pa_cons (pv 2) (pa_cons (pv 5) pa_nil))))))
 (pss_cons (ps_set (i := 1) sc__law_question.nd rfl (Or.inl rfl) (pe_op o_add (pv 1) (pe_callF ((ok__law_part T).mono (by decide)) hr (takes_of rfl rfl rfl rfl) (by rfl) (gm__law_part T) (k__law_part T) (pa_cons (pv 0) (pa_cons (pv 5) pa_nil)))))
 (pss_one (ps_if (pt_cmpR o_lt (pv 5) (pe_op o_sub (pv 3) pe_int) (nomark _)) (pss_cons (ps_set (i := 6) sc__law_question.nd rfl (Or.inl rfl) (pe_callF ((ok__law_closed T).mono (by decide)) hr (takes_of rfl rfl rfl rfl) (by rfl) (gm__law_closed T) (k__law_closed T) (pa_cons (pv 0) (pa_cons (pv 2) pa_nil))))
 (pss_cons (ps_set (i := 1) sc__law_question.nd rfl (Or.inl rfl) (pe_op o_add (pv 1) (pv 6)))
 (pss_one (ps_if (pt_cmpR (o_ne hr.units) (pe_slice o_sl (pv 6) (po_some (pe_un un_neg pe_int)) po_none) (pe_lst (pa_cons pe_str pa_nil)) (nomark _)) (pss_cons (ps_set (i := 7) sc__law_question.nd rfl (Or.inl rfl) (pe_ix ix_seq (pe_lst (pa_cons pe_str (pa_cons pe_str (pa_cons pe_str pa_nil)))) (pe_op o_mod (pe_callTy (c_int (nd_int T)) (by rfl) (z_int T) (by decide +kernel) (pa_cons (pe_op o_add (pe_callF ((ok__law_digit T).mono (by decide)) hr (takes_of rfl rfl rfl rfl) (by rfl) (gm__law_digit T) (k__law_digit T) (pa_cons (pv 0) (pa_cons pe_int pa_nil))) (pv 5)) pa_nil)) pe_int) (fun _ _ => rfl)))
 (pss_cons (ps_if (PW.pt (pw_and (pt_cmpR (o_eq hr.units) (pv 2) (pe_lst pa_nil) (nomark _)) (pw_and (pt_cmpR o_gt (pv 4) pe_int (nomark _)) (pw_and1 (pt_cmpR (o_eq hr.units) (pe_callF ((ok__law_digit T).mono (by decide)) hr (takes_of rfl rfl rfl rfl) (by rfl) (gm__law_digit T) (k__law_digit T) (pa_cons (pv 0) (pa_cons pe_int pa_nil))) pe_int (nomark _)))))) (pss_cons (ps_set (i := 7) sc__law_question.nd rfl (Or.inl rfl) pe_str)
 (pss_one (ps_set (i := 4) sc__law_question.nd rfl (Or.inl rfl) pe_int))) pss_nil)
 (pss_one (ps_set (i := 1) sc__law_question.nd rfl (Or.inl rfl) (pe_op o_add (pv 1) (pe_lst (pa_cons (pv 7) pa_nil))))))) pss_nil)))) pss_nil)))))
 (pss_cons (ps_for (passes_of rfl) rfl (pi_range1 (by rfl) (z_range T) (pa_cons (pe_callB b_len (by rfl) (z_len T) (by decide +kernel) (pa_cons (pv 2) pa_nil)) pa_nil)) (pg_name (i := 5) sc__law_question.nd rfl (Or.inl rfl)) (pss_cons (ps_if (pt_cmpR (o_eq hr.units) (pe_ix ix_seq (pv 2) (pe_op o_sub (pe_op o_sub (pe_callB b_len (by rfl) (z_len T) (by decide +kernel) (pa_cons (pv 2) pa_nil)) pe_int) (pv 5)) (fun _ _ => rfl)) pe_int (nomark _)) (pss_one (ps_set (i := 1) sc__law_question.nd rfl (Or.inl rfl) (pe_op o_add (pv 1) (pe_lst (pa_cons pe_str (pa_cons pe_str pa_nil)))))) pss_nil)
 (pss_one (ps_set (i := 1) sc__law_question.nd rfl (Or.inl rfl) (pe_op o_add (pv 1) (pe_lst (pa_cons pe_str pa_nil)))))))
 (pss_one (ps_ret (pv 1))))))))), ?_⟩
    refine g_start (σ := [some (.ref p), none, none, none, none, none, none, none]) rfl ?_
    walk_at "gg"
    refine ⟨nil_le, fun l0 hl0 => ?_⟩
    walk_at "gg"
    refine ⟨nil_le, fun ls hls => ?_⟩
    have n0 : l0 ≠ ls := ne_of_none upd_same hls
    have s00 := (same_new hl0 (.lst [])).free hls
    have f0 : Fr p l ls l0 H (upd (upd H l0 (.lst [])) ls (.lst [])) [] [] := ⟨hp, s00, (Ps.refl hp).new hl0 |>.new hls, upd_same, by rw [upd_ne n0]; exact upd_same, hl0, n0⟩
    walk_at "gg"
    refine ⟨p, l, 6, rfl, f0.ps.pot, by decide, by decide, fun r1 H1 h1 pt1 => ?_⟩
    have f1 := f0.pt pt1
    walk_at "gg"
    refine g_modI (by decide) ?_
    walk_at "gg"
    refine ⟨p, l, 3, rfl, f1.ps.pot, by decide, by decide, fun r2 H2 h2 pt2 => ?_⟩
    have f2 := f1.pt pt2
    walk_at "gg"
    refine g_modI (by decide) ?_
    obtain ⟨mn, hmn, hmn1, hmn2⟩ : ∃ mn : Nat, 1 + ((r1 : Int) + 4) % 6 = (mn : Int) ∧ 0 < mn ∧ mn ≤ 6 := ⟨(1 + ((r1 : Int) + 4) % 6).toNat, by omega, by omega, by omega⟩
    rw [hmn]
    obtain ⟨lf, hlf⟩ : ∃ lf : Int, ((r2 : Int) + 1) % 3 = lf := ⟨_, rfl⟩
    rw [hlf]
    walk_at "gw"
    refine g_seqK (fun σ' H' => ∃ (lw : Addr) (ws : List Str) (S : List Int) (s : Int) (lf : Int) (o1 o2 o3 : Option V), σ' = [some (.ref p), some (.ref lw), some (.ref ls), some (.int (mn : Int)), some (.int lf), o1, o2, o3] ∧ Fr p l ls lw H H' S ws ∧ StkOk S ∧ WsOk ws ∧ ws.length ≤ 18 * mn ∧ ws ≠ [] ∧ runL initA ws = some ⟨S, [("after" : Str)], s⟩) ?_ ?_
    · rintro σ' H3 ⟨lw, ws, S, si, lf, o1, o2, o3, rfl, f, hS, hws, hwl, hne, hrun⟩
      have hmS : (S.map V.int).length = S.length := List.length_map _
      have hS7 := hS.len
      walk_at "gg"
      refine g_lenL (.inl (.inl f.stk)) ?_
      rw [hmS]
      walk_at "gg"
      rw [Int.toNat_natCast]
      refine l_range (fun i σ' H' => ∃ (lw : Addr) (ws : List Str) (o1 : Option V), σ' = [some (.ref p), some (.ref lw), some (.ref ls), some (.int (mn : Int)), some (.int lf), o1, o2, o3] ∧ Fr p l ls lw H H' S ws ∧ WsOk ws ∧ ws.length ≤ 18 * mn + 3 * i ∧ i ≤ S.length ∧ ws ≠ [] ∧ runL initA ws = some ⟨S.take (S.length - i), [("after" : Str)], si⟩)
        ⟨lw, ws, _, rfl, f, hws, by omega, Nat.zero_le _, hne, by rw [Nat.sub_zero, List.take_length]; exact hrun⟩ ?_ ?_
      · rintro i σ' H4 hi ⟨lw, ws, o1, rfl, f, hws, hwl, hi2, hne, hrun⟩
        have hj : S.length - 1 - i < S.length := by omega
        have hat : atI (S.map V.int) ((S.length : Int) - 1 - (i : Int)) = some (.int S[S.length - 1 - i]) := by
          rw [show ((S.length : Int) - 1 - (i : Int)) = ((S.length - 1 - i : Nat) : Int) by omega]
          exact atI_nat (by rw [List.getElem?_map, List.getElem?_eq_getElem hj]; rfl)
        have htk : S.take (S.length - i) = S.take (S.length - (i + 1)) ++ [S[S.length - 1 - i]] := by
          rw [show S.length - i = (S.length - 1 - i) + 1 by omega, show S.length - (i + 1) = S.length - 1 - i by omega]
          exact List.take_succ_eq_append_getElem hj
        walk_at "gg"
        refine g_lenL (.inl (.inl f.stk)) ?_
        rw [hmS]
        walk_at "gg"
        rw [Int.zero_add]
        refine g_ixL (.inl (.inl f.stk)) hat ?_
        walk_at "gg"
        refine g_ite (fun c => ?_) (fun c => ?_)
        · walk_at "gg"
          refine ⟨two_le, fun m1 hm1 => ?_⟩
          have f1 := f.new (o := .lst [V.str ",", V.str "1/2"]) hm1
          walk_at "gg"
          refine g_addL f1.wrd upd_same (szS (ys := [",", "1/2"]) (by show _ + 2 ≤ _; omega)) fun m2 hm2 => ?_
          have f2 := f1.add (xs := ws.map V.str ++ [V.str ",", V.str "1/2"]) (ws2 := ws ++ [("," : Str), "1/2"]) hm2 (by rw [List.map_append]; rfl)
          walk_at "gg"
          refine ⟨one_le, fun m3 hm3 => ?_⟩
          have f3 := f2.new (o := .lst [V.str ")"]) hm3
          walk_at "gg"
          have hsz : (ws ++ [(",": Str), "1/2"]).length = ws.length + 2 := by rw [List.length_append]; rfl
          refine g_addL f3.wrd upd_same (szS (ys := [")"]) (by show _ + 1 ≤ _; omega)) fun m4 hm4 => ?_
          have f4 := f3.add (xs := (ws ++ [("," : Str), "1/2"]).map V.str ++ [V.str ")"]) (ws2 := (ws ++ [("," : Str), "1/2"]) ++ [(")" : Str)]) hm4 (by rw [List.map_append (l₂ := [(")" : Str)])]; rfl)
          walk_at "gg"
          refine ⟨m4, _, _, rfl, f4, wsOk_app (wsOk_app hws (wsOk_two wok_by wok_by)) (wsOk_one wok_by), ?_, hi, by simp, ?_⟩
          · rw [List.length_append, hsz]
            show _ + 1 ≤ _
            omega
          · rw [List.append_assoc, runL_app hrun, htk, c]
            exact run_close2
        · have c1 : S[S.length - 1 - i] = 1 := by
            rcases hS.el _ (List.getElem_mem hj) with h | h
            · exact h
            · exact absurd h c
          walk_at "gg"
          refine ⟨one_le, fun m3 hm3 => ?_⟩
          have f3 := f.new (o := .lst [V.str ")"]) hm3
          walk_at "gg"
          refine g_addL f3.wrd upd_same (szS (ys := [")"]) (by show _ + 1 ≤ _; omega)) fun m4 hm4 => ?_
          have f4 := f3.add (xs := ws.map V.str ++ [V.str ")"]) (ws2 := ws ++ [(")" : Str)]) hm4 (by rw [List.map_append]; rfl)
          walk_at "gg"
          refine ⟨m4, _, _, rfl, f4, wsOk_app hws (wsOk_one wok_by), ?_, hi, by simp, ?_⟩
          · rw [List.length_append]
            show _ + 1 ≤ _
            omega
          · rw [runL_app hrun, htk, c1]
            exact run_one st_close
      · rintro σ' H4 ⟨lw, ws, o1, rfl, f, hws, hwl, hi2, hne, hrun⟩
        rw [Nat.sub_self, List.take_zero] at hrun
        walk_at "gg"
        exact q lw ws _ ⟨hws, hne, by omega, si, hrun⟩ f.out f.fr f.wrd
    · intro N hN
      walk_at "gg"
      rw [Int.toNat_natCast]
      refine l_range (fun i σ' H' => ∃ (lw : Addr) (ws : List Str) (S : List Int) (s : Int) (lf : Int) (o1 o2 o3 : Option V), σ' = [some (.ref p), some (.ref lw), some (.ref ls), some (.int (mn : Int)), some (.int lf), o1, o2, o3] ∧ Fr p l ls lw H H' S ws ∧ StkOk S ∧ WsOk ws ∧ ws.length ≤ 18 * i ∧ (0 < i → ws ≠ []) ∧ runL initA ws = some ⟨S, dueAt i mn, s⟩ ∧ (s = 1 ∨ lf ≤ 0))
        ⟨l0, [], [], 1, lf, _, _, _, rfl, f2, ⟨by simp, by simp⟩, wsOk_nil, by simp, by omega, by unfold dueAt; rw [if_neg (by omega)]; rfl, .inl rfl⟩ ?_ ?_
      · rintro i σ' H3 hi ⟨lw, ws, S, si, lf, o1, o2, o3, rfl, f, hS, hws, hwl, hne, hrun, hsl⟩
        rw [show dueAt i mn = [("part" : Str)] from if_neg (by omega)] at hrun
        walk_at "gg"
        refine ⟨p, l, ls, i, S, by rw [Int.zero_add], f.ps.pot, by omega, f.stk, f.np, f.nl, hS, fun lo wo S1 H4 hS1 hwo hlo hro ps4 hl4 hfo hwo4 => ?_⟩
        have f4 := f.st ps4 hl4
        walk_at "gg"
        refine g_addL f4.wrd hwo4 (szS (by omega)) fun m1 hm1 => ?_
        have f5 := f4.add (ws2 := ws ++ wo) hm1 mapS
        walk_at "gg"
        refine ⟨p, l, i, by rw [Int.zero_add], f5.ps.pot, by omega, fun lp wp H6 po pt6 hfp hwp => ?_⟩
        have f6 := f5.pt pt6
        have hp10 := po.len
        have e1 : (ws ++ wo).length = ws.length + wo.length := List.length_append
        walk_at "gg"
        refine g_addL f6.wrd hwp (szS (by omega)) fun m2 hm2 => ?_
        have f7 := f6.add (ws2 := ws ++ wo ++ wp) hm2 mapS
        have run7 : runL initA (ws ++ wo ++ wp) = some ⟨S1, [("after" : Str)], si⟩ := by
          rw [runL_app (by rw [runL_app hrun]; exact hro si)]
          exact po.run S1 si
        have ok7 : WsOk (ws ++ wo ++ wp) := wsOk_app (wsOk_app hws hwo) po.ok
        have ne7 : ws ++ wo ++ wp ≠ [] := fun e => po.pos (List.append_eq_nil_iff.mp e).2
        have e7 : (ws ++ wo ++ wp).length = ws.length + wo.length + wp.length := by rw [List.length_append, e1]
        generalize hW7 : ws ++ wo ++ wp = W7 at *
        walk_at "gg"
        refine g_ite (fun c => ?_) (fun c => ?_)
        · walk_at "gg"
          refine ⟨p, l, ls, S1, rfl, f7.ps.pot, f7.stk, f7.np, f7.nl, hS1, fun le we S2 H8 ok8 ps8 hl8 hfe hwe => ?_⟩
          have f8 := f7.st ps8 hl8
          have hc3 := ok8.len
          walk_at "gg"
          refine g_addL f8.wrd hwe (szS (by omega)) fun m3 hm3 => ?_
          have f9 := f8.add (ws2 := W7 ++ we) hm3 mapS
          have hwe9 : (upd H8 m3 (.lst (W7.map V.str ++ we.map V.str))) le = some (.lst (we.map V.str)) := by rw [upd_ne (ne_of_none hwe hm3)]; exact hwe
          have run9 : runL initA (W7 ++ we) = some ⟨S2, dueC we, si⟩ := by rw [runL_app run7]; exact ok8.run si
          have ok9 : WsOk (W7 ++ we) := wsOk_app ok7 ok8.ok
          have ne9 : W7 ++ we ≠ [] := fun e => ne7 (List.append_eq_nil_iff.mp e).1
          have e9 : (W7 ++ we).length = W7.length + we.length := List.length_append
          walk_at "gg"
          refine .inl ⟨le, _, rfl, .inl (.inl hwe9), fun m4 hm4 => ?_⟩
          rw [cut_lastS]
          have f10 := f9.new (o := .lst ((we.drop (we.length - 1)).map V.str)) hm4
          walk_at "gg"
          refine ⟨one_le, fun m5 hm5 => ?_⟩
          have f11 := f10.new (o := .lst [V.str ","]) hm5
          walk_at "gg"
          refine g_neLS (xs := we.drop (we.length - 1)) (ys := [","]) (.inl (.inl (by rw [upd_ne (ne_of_none upd_same hm5)]; exact upd_same))) (.inl (.inl upd_same)) (fun x hx => wok_words ok8.ok x (List.mem_of_mem_drop hx)) (by decide +kernel) ?_
          rw [decide_eq_decide.mpr (last_iff we (("," : Str)))]
          walk_at "gg"
          refine g_iteN (fun c2 => ?_) (fun c2 => ?_)
          · rw [show dueC we = [("after" : Str)] from if_neg c2] at run9
            generalize hH11 : upd (upd (upd H8 m3 (.lst (W7.map V.str ++ we.map V.str))) m4 (.lst ((we.drop (we.length - 1)).map V.str))) m5 (.lst [V.str ","]) = H11 at *
            walk_at "gg"
            refine ⟨le_size (by show 3 ≤ 64; decide), fun m6 hm6 => ?_⟩
            have f12 := f11.new (o := .lst [V.str "+", V.str "*", V.str "-"]) hm6
            have n6 : m6 ≠ p := fun e => (f11.ps.pot.ne hm6).1 e.symm
            walk_at "gg"
            refine ⟨p, l, 3, rfl, f12.ps.pot, by decide, by decide, fun r3 H13 h3 pt13 => ?_⟩
            have f13 := f12.pt pt13
            have h613 := pt13.at upd_same n6
            walk_at "gg"
            refine g_modI (by decide) ?_
            obtain ⟨a, ha, hat⟩ : ∃ a : Str, (a = ("+" : Str) ∨ a = ("*" : Str) ∨ a = ("-" : Str)) ∧ atI [V.str "+", V.str "*", V.str "-"] (((r3 : Int) + (0 + (i : Int))) % 3) = some (.str a) := by
              obtain ⟨kd, hkd, hkd2⟩ : ∃ kd : Nat, ((r3 : Int) + (0 + (i : Int))) % 3 = (kd : Int) ∧ kd < 3 := ⟨(((r3 : Int) + (0 + (i : Int))) % 3).toNat, by omega, by omega⟩
              rw [hkd]
              rcases (show kd = 0 ∨ kd = 1 ∨ kd = 2 by omega) with rfl | rfl | rfl
              · exact ⟨_, .inl rfl, rfl⟩
              · exact ⟨_, .inr (.inl rfl), rfl⟩
              · exact ⟨_, .inr (.inr rfl), rfl⟩
            have wa : Wok a := by rcases ha with rfl | rfl | rfl <;> exact wok_by
            refine g_ixL (.inl (.inl h613)) hat ?_
            walk_at "gw"
            refine g_seqK (fun σ' H' => ∃ (sg : Str) (s2 lf2 : Int) (o1 o2 : Option V), σ' = [some (.ref p), some (.ref m3), some (.ref ls), some (.int (mn : Int)), some (.int lf2), o1, o2, some (.str sg)] ∧ Fr p l ls m3 H H' S2 (W7 ++ we) ∧ Wok sg ∧ stepA ⟨S2, [("after" : Str)], si⟩ sg = some ⟨S2, [("part" : Str)], s2⟩ ∧ (s2 = 1 ∨ lf2 ≤ 0)) ?_ ?_
            · rintro σ' H14 ⟨sg, s2, lf2, o1, o2, rfl, f14, wsg, st, hs2⟩
              walk_at "gg"
              refine ⟨one_le, fun m7 hm7 => ?_⟩
              have f15 := f14.new (o := .lst [V.str sg]) hm7
              walk_at "gg"
              refine g_addL f15.wrd upd_same (szS (ys := [sg]) (by show _ + 1 ≤ _; omega)) fun m8 hm8 => ?_
              have f16 := f15.add (xs := (W7 ++ we).map V.str ++ [V.str sg]) (ws2 := (W7 ++ we) ++ [sg]) hm8 (by rw [List.map_append (l₂ := [sg])]; rfl)
              walk_at "gg"
              refine ⟨m8, _, S2, s2, lf2, _, _, _, rfl, f16, ok8.stk, wsOk_app ok9 (wsOk_one wsg), ?_, fun _ => by simp, ?_, hs2⟩
              · rw [List.length_append]
                show _ + 1 ≤ _
                omega
              · rw [runL_app run9, run_one st, show dueAt (i + 1) mn = [("part" : Str)] from if_neg (by omega)]
            · intro N hN
              have plain : ∀ H', Fr p l ls m3 H H' S2 (W7 ++ we) → ∀ o1 o2, N [some (.ref p), some (.ref m3), some (.ref ls), some (.int (mn : Int)), some (.int lf), o1, o2, some (.str a)] H' := fun H' f' o1 o2 => hN _ _ ⟨a, si, lf, _, _, rfl, f', wa, sign_step ha, hsl⟩
              walk_at "gg"
              refine ⟨nil_le, fun m7 hm7 => ?_⟩
              have f15 := f13.new (o := .lst []) hm7
              walk_at "gg"
              refine g_eqLI (xs := S2) (ys := []) (.inl (.inl f15.stk)) (.inl (.inl upd_same)) ?_
              walk_at "gg"
              refine g_ite (fun c3 => ?_) (fun c3 => ?_)
              · walk_at "gg"
                refine g_ite (fun c4 => ?_) (fun c4 => ?_)
                · walk_at "gg"
                  refine ⟨p, l, 2, rfl, f15.ps.pot, by decide, by decide, fun r4 H16 h4 pt16 => ?_⟩
                  have f16 := f15.pt pt16
                  walk_at "gg"
                  refine g_ite (fun c5 => ?_) (fun c5 => ?_)
                  · walk_at "gg"
                    have s1 : si = 1 := by
                      rcases hsl with h | h
                      · exact h
                      · omega
                    refine hN _ _ ⟨("<=" : Str), 2, 0, _, _, rfl, f16, wok_by, ?_, .inr (Int.le_refl _)⟩
                    rw [c3, s1]
                    exact st_le rfl
                  · walk_at "gg"
                    exact plain _ f16 _ _
                · walk_at "gg"
                  exact plain _ f15 _ _
              · walk_at "gg"
                exact plain _ f15 _ _
          · walk_at "gg"
            refine ⟨m3, _, S2, si, lf, _, _, _, rfl, f11, ok8.stk, ok9, by omega, fun _ => ne9, ?_, hsl⟩
            rw [run9, show dueC we = [("part" : Str)] from if_pos c2, show dueAt (i + 1) mn = [("part" : Str)] from if_neg (by omega)]
        · walk_at "gg"
          refine ⟨m2, _, S1, si, lf, _, _, _, rfl, f7, hS1, ok7, by omega, fun _ => ne7, ?_, hsl⟩
          rw [run7, show dueAt (i + 1) mn = [("after" : Str)] from if_pos (by omega)]
      · rintro σ' H3 ⟨lw, ws, S, si, lf, o1, o2, o3, rfl, f, hS, hws, hwl, hne, hrun, hsl⟩
        rw [show dueAt mn mn = [("after" : Str)] from if_pos rfl] at hrun
        exact hN _ _ ⟨lw, ws, S, si, lf, _, _, _, rfl, f, hS, hws, hwl, hne hmn1, hrun⟩
end
end My
namespace My
open PySem PySem.Spec PyProof.Rows L2 He He5 Go NumT RatA TL TxtA DeqA
local macro_rules | `(tactic| walk_at "gv") => `(tactic| first
  | with_reducible refine g_v0 ?_ | with_reducible refine g_v1 ?_ | with_reducible refine g_v2 ?_ | with_reducible refine g_v3 ?_ | with_reducible refine g_v4 ?_ | with_reducible refine g_v5 ?_
  | with_reducible refine g_v6 ?_ | with_reducible refine g_v7 ?_ | with_reducible refine g_v8 ?_ | with_reducible refine g_v9 ?_ | with_reducible refine g_v10 ?_ | with_reducible refine g_v11 ?_ | with_reducible refine g_v12 ?_)
local macro_rules | `(tactic| walk_at "gn") => `(tactic| first
  | with_reducible refine g_n0 ?_ | with_reducible refine g_n1 ?_ | with_reducible refine g_n2 ?_ | with_reducible refine g_n3 ?_ | with_reducible refine g_n4 ?_ | with_reducible refine g_n5 ?_
  | with_reducible refine g_n6 ?_ | with_reducible refine g_n7 ?_ | with_reducible refine g_n8 ?_ | with_reducible refine g_n9 ?_ | with_reducible refine g_n10 ?_ | with_reducible refine g_n11 ?_ | with_reducible refine g_n12 ?_)
local macro_rules | `(tactic| walk_at "gs") => `(tactic| first
  | with_reducible refine g_asg ?_ | with_reducible refine g_ret ?_ | with_reducible refine g_if ?_ | with_reducible refine g_drop ?_ | with_reducible refine g_next ?_
  | with_reducible refine g_retN ?_ | with_reducible refine g_brk ?_ | with_reducible refine g_cont ?_ | with_reducible refine g_forA ?_ | with_reducible refine g_sfld ?_)
local macro_rules | `(tactic| walk_at "ge") => `(tactic| first
  | with_reducible refine g_c ?_ | with_reducible refine g_op ?_ | with_reducible refine g_test ?_ | with_reducible refine g_bl ?_ | with_reducible refine g_tB ?_ | with_reducible refine g_not ?_
  | with_reducible refine g_and ?_ | with_reducible refine g_or ?_ | with_reducible refine g_notV ?_ | with_reducible refine g_andV ?_ | with_reducible refine g_orV ?_ | with_reducible refine g_ifE ?_
  | with_reducible refine g_un ?_ | with_reducible refine g_chain ?_ | with_reducible refine g_nil ?_ | with_reducible refine g_cons ?_ | with_reducible refine g_tup ?_ | with_reducible refine g_lst ?_
  | with_reducible refine g_cb ?_ | with_reducible refine g_call ?_ | with_reducible refine g_cmeth ?_ | with_reducible refine g_make ?_ | with_reducible refine g_noPart ?_ | with_reducible refine g_part ?_
  | with_reducible refine g_partI ?_ | with_reducible refine g_sl ?_ | with_reducible refine g_m1 ?_ | with_reducible refine g_m0 ?_ | with_reducible refine g_isS ?_ | with_reducible refine g_gsub ?_
  | with_reducible refine g_gcons ?_ | with_reducible refine g_gnil ?_ | with_reducible refine g_bm ?_ | with_reducible refine g_bm0 ?_ | with_reducible refine g_mk ?_ | with_reducible refine g_lc ?_ | with_reducible refine g_fld ?_ | with_reducible refine g_yes ?_)
local macro_rules | `(tactic| walk_at "go_") => `(tactic| first
  | with_reducible refine g_addI ?_ | with_reducible refine g_subI ?_ | with_reducible refine g_ltI ?_ | with_reducible refine g_leI ?_ | with_reducible refine g_gtI ?_ | with_reducible refine g_geI ?_
  | with_reducible refine g_eqI ?_ | with_reducible refine g_eqS ?_ | with_reducible refine g_neI ?_ | with_reducible refine g_neS ?_
  | with_reducible refine g_isNn ?_ | with_reducible refine g_isNi ?_ | with_reducible refine g_isNs ?_ | with_reducible refine g_isNr ?_
  | with_reducible refine g_notNn ?_ | with_reducible refine g_notNi ?_ | with_reducible refine g_notNs ?_ | with_reducible refine g_notNr ?_ | with_reducible refine g_neg ?_
  | with_reducible refine g_inS ?_ | with_reducible refine g_niS ?_ | with_reducible refine g_iteT ?_ | with_reducible refine g_iteF ?_ | with_reducible refine g_iteNT ?_ | with_reducible refine g_iteNF ?_
  | with_reducible refine g_intI ?_ | with_reducible refine g_intB ?_ | with_reducible refine g_gcd ?_ | with_reducible refine g_max2 ?_ | with_reducible refine g_min2 ?_ | with_reducible refine g_stw ?_ | with_reducible refine g_abs ?_
  | with_reducible refine g_iStr ?_ | with_reducible refine g_exS ?_ | with_reducible refine g_iList ?_ | with_reducible refine g_iTup ?_ | with_reducible refine g_iR1 ?_ | with_reducible refine g_iR2 ?_ | with_reducible refine g_exR1 (by omega) (by omega) ?_ | with_reducible refine g_exR2 (by omega) ?_)
local macro_rules | `(tactic| walk_at "go1") => `(tactic| first | walk_at "gs" | with_reducible refine g_seq ?_ | walk_at "gv" | walk_at "ge" | walk_at "gn" | walk_at "go_")
local macro_rules | `(tactic| walk_at "go") => `(tactic| repeat walk_at "go1")
local macro_rules | `(tactic| walk_at "gl") => `(tactic| first
  | with_reducible refine g_lenS (by assumption) ?_ | with_reducible refine g_lenL (by assumption) ?_ | with_reducible refine g_lenT (by assumption) ?_ | with_reducible refine g_exL (by assumption) ?_ | with_reducible refine g_exT (by assumption) ?_)
local macro_rules | `(tactic| walk_at "gw") => `(tactic| repeat (first | walk_at "gs" | walk_at "gv" | walk_at "ge" | walk_at "gn" | walk_at "go_" | walk_at "gl"))
local macro_rules | `(tactic| walk_at "go2") => `(tactic| first | walk_at "go1" | walk_at "gl")
local macro_rules | `(tactic| walk_at "gg") => `(tactic| repeat walk_at "go2")

def sp1 : List Str := ["(", ")", "[", "]", ",", "+", "-", "*", "<=", "least", "energy", "cut", "forests", "a"]
def sp2 : List Str := ["1", "-2", "1/2", "0/3", "2/4", "3/1", "+1", "01", "-0", "1/-2", "A", "a_b", "=="]
def sp3 : List Str := ["1\n", "<", "pull",
  "power", "cost", "greatest", "min", "{", "1.5", "", "1/0"]
def sp4 : List Str := ["abcdefghi", "resistance", "determinant", "Energy", "-", "1/", "/2"]
def spareL : List Str := sp1 ++ sp2 ++ sp3 ++ sp4
theorem spare_wok : ∀ x ∈ spareL, Wok x := by
  have h : ∀ x ∈ spareL, x.length ≤ 60 ∧ asc x = true ∧ 32 ∉ tl x := by decide +kernel
  intro x hx
  obtain ⟨a, b, c⟩ := h x hx
  exact ⟨a, b, c⟩
section
variable {P : Program} {w : World} {K : PySem.W.Frag} {mg : Str → Option Value} {base : Heap}
def spSpare : Sp := fun vs H Q _ => ∃ (p l : Addr) (k : Nat), vs = [.ref p, .int (k : Int)] ∧ PotAt H p l ∧ k ≤ 1000 ∧ ∀ x H', Wok x → Pt p l H H' → Q (.str x) H'
theorem ok__law_spare (T : Tx fxL fnL K mg) : FnR P w K mg base (L2.CX P w) 2 (ga K "_law_spare") spSpare := by
  refine fun_ok (F__law_spare T) sc__law_spare (fun _ _ _ _ _ _ us hl => match us, hl with | [_, _], _ => rfl) ?_ ?_
  · rintro vs H Q E ⟨p, l, k, rfl, _⟩
    rfl
  · rintro cdv A outer s H vs Q E hr ⟨p, l, k, rfl, hp, hk, q⟩
    refine ⟨_, (pss_cons (ps_set (i := 2) sc__law_spare.nd rfl (Or.inl rfl) (pe_lst (pa_cons pe_str (pa_cons pe_str (pa_cons pe_str (pa_cons pe_str (pa_cons pe_str (pa_cons pe_str (pa_cons pe_str (pa_cons pe_str (pa_cons pe_str (pa_cons pe_str (pa_cons pe_str (pa_cons pe_str (pa_cons pe_str (pa_cons pe_str pa_nil))))))))))))))))
 (pss_cons (ps_set (i := 2) sc__law_spare.nd rfl (Or.inl rfl) (pe_op o_add (pv 2) (pe_lst (pa_cons pe_str (pa_cons pe_str (pa_cons pe_str (pa_cons pe_str (pa_cons pe_str (pa_cons pe_str (pa_cons pe_str (pa_cons pe_str (pa_cons pe_str (pa_cons pe_str (pa_cons pe_str (pa_cons pe_str (pa_cons pe_str pa_nil))))))))))))))))
 (pss_cons (ps_set (i := 2) sc__law_spare.nd rfl (Or.inl rfl) (pe_op o_add (pv 2) (pe_lst (pa_cons pe_str (pa_cons pe_str (pa_cons pe_str (pa_cons pe_str (pa_cons pe_str (pa_cons pe_str (pa_cons pe_str (pa_cons pe_str (pa_cons pe_str (pa_cons pe_str (pa_cons pe_str pa_nil))))))))))))))
 (pss_cons (ps_set (i := 2) sc__law_spare.nd rfl (Or.inl rfl) (pe_op o_add (pv 2) (pe_lst (pa_cons pe_str (pa_cons pe_str (pa_cons pe_str (pa_cons pe_str (pa_cons pe_str (pa_cons pe_str (pa_cons pe_str pa_nil))))))))))
 (pss_one (ps_ret (pe_ix ix_seq (pv 2) (pe_op o_mod (pe_callTy (c_int (nd_int T)) (by rfl) (z_int T) (by decide +kernel) (pa_cons (pe_op o_add (pe_callF ((ok__law_digit T).mono (by decide)) hr (takes_of rfl rfl rfl rfl) (by rfl) (gm__law_digit T) (k__law_digit T) (pa_cons (pv 0) (pa_cons (pe_callB b_len (by rfl) (z_len T) (by decide +kernel) (pa_cons (pv 2) pa_nil)) pa_nil))) (pe_op o_mul pe_int (pv 1))) pa_nil)) (pe_callB b_len (by rfl) (z_len T) (by decide +kernel) (pa_cons (pv 2) pa_nil))) (fun _ _ => rfl)))))))), ?_⟩
    refine g_start (σ := [some (.ref p), some (.int (k : Int)), none]) rfl ?_
    walk_at "gg"
    refine ⟨le_size (by show 14 ≤ 64; decide), fun a1 h1 => ?_⟩
    walk_at "gg"
    refine ⟨le_size (by show 13 ≤ 64; decide), fun a2 h2 => ?_⟩
    have k1 : (upd (upd H a1 (.lst (sp1.map V.str))) a2 (.lst (sp2.map V.str))) a1 = some (.lst (sp1.map V.str)) := by rw [upd_ne (ne_of_none upd_same h2)]; exact upd_same
    have pt2 := ((Pt.refl hp).new (o := .lst (sp1.map V.str)) h1).new (o := .lst (sp2.map V.str)) h2
    walk_at "gg"
    refine g_addL (xs := sp1.map V.str) (ys := sp2.map V.str) k1 upd_same (le_size (xs := sp1.map V.str ++ sp2.map V.str) (by decide +kernel)) fun a3 h3 => ?_
    rw [mapS]
    have pt3 := pt2.new (o := .lst ((sp1 ++ sp2).map V.str)) h3
    walk_at "gg"
    refine ⟨le_size (by show 11 ≤ 64; decide), fun a4 h4 => ?_⟩
    have pt4 := pt3.new (o := .lst (sp3.map V.str)) h4
    walk_at "gg"
    refine g_addL (xs := (sp1 ++ sp2).map V.str) (ys := sp3.map V.str) (by rw [upd_ne (ne_of_none upd_same h4)]; exact upd_same) upd_same (le_size (xs := (sp1 ++ sp2).map V.str ++ sp3.map V.str) (by decide +kernel)) fun a5 h5 => ?_
    rw [mapS]
    have pt5 := pt4.new (o := .lst ((sp1 ++ sp2 ++ sp3).map V.str)) h5
    walk_at "gg"
    refine ⟨le_size (by show 7 ≤ 64; decide), fun a6 h6 => ?_⟩
    have pt6 := pt5.new (o := .lst (sp4.map V.str)) h6
    walk_at "gg"
    refine g_addL (xs := (sp1 ++ sp2 ++ sp3).map V.str) (ys := sp4.map V.str) (by rw [upd_ne (ne_of_none upd_same h6)]; exact upd_same) upd_same (le_size (xs := (sp1 ++ sp2 ++ sp3).map V.str ++ sp4.map V.str) (by decide +kernel)) fun a7 h7 => ?_
    rw [mapS]
    have pt7 := pt6.new (o := .lst (spareL.map V.str)) h7
    have n7 : a7 ≠ p := fun e => (pt6.pot.ne h7).1 e.symm
    walk_at "gg"
    refine g_lenL (xs := spareL.map V.str) (.inl (.inl upd_same)) ?_
    rw [show (spareL.map V.str).length = 45 by decide +kernel]
    walk_at "gg"
    refine ⟨p, l, 45, rfl, pt7.pot, by decide, by decide, fun r H8 h8 pt8 => ?_⟩
    have hl8 := pt8.at (o := .lst (spareL.map V.str)) upd_same n7
    walk_at "gg"
    refine g_mulI (mulS (by decide) (by omega)) ?_
    walk_at "gg"
    refine g_lenL (xs := spareL.map V.str) (.inl (.inl hl8)) ?_
    rw [show (spareL.map V.str).length = 45 by decide +kernel]
    walk_at "gg"
    refine g_modI (by decide) ?_
    obtain ⟨kd, hkd, hkd2⟩ : ∃ kd : Nat, ((r : Int) + 11 * (k : Int)) % ((45 : Nat) : Int) = (kd : Int) ∧ kd < 45 := ⟨(((r : Int) + 11 * (k : Int)) % ((45 : Nat) : Int)).toNat, by omega, by omega⟩
    rw [hkd]
    have hlt : kd < spareL.length := by rw [show spareL.length = 45 by decide +kernel]; exact hkd2
    refine g_ixL (xs := spareL.map V.str) (v := .str spareL[kd]) (.inl (.inl hl8)) (atI_nat (by rw [List.getElem?_map, List.getElem?_eq_getElem hlt]; rfl)) ?_
    exact q _ _ (spare_wok _ (List.getElem_mem hlt)) (pt7.trans pt8)
end
end My
namespace My
open PySem PySem.Spec PyProof.Rows L2 He He5 Go NumT RatA TL TxtA DeqA
local macro_rules | `(tactic| walk_at "gv") => `(tactic| first
  | with_reducible refine g_v0 ?_ | with_reducible refine g_v1 ?_ | with_reducible refine g_v2 ?_ | with_reducible refine g_v3 ?_ | with_reducible refine g_v4 ?_ | with_reducible refine g_v5 ?_
  | with_reducible refine g_v6 ?_ | with_reducible refine g_v7 ?_ | with_reducible refine g_v8 ?_ | with_reducible refine g_v9 ?_ | with_reducible refine g_v10 ?_ | with_reducible refine g_v11 ?_ | with_reducible refine g_v12 ?_)
local macro_rules | `(tactic| walk_at "gn") => `(tactic| first
  | with_reducible refine g_n0 ?_ | with_reducible refine g_n1 ?_ | with_reducible refine g_n2 ?_ | with_reducible refine g_n3 ?_ | with_reducible refine g_n4 ?_ | with_reducible refine g_n5 ?_
  | with_reducible refine g_n6 ?_ | with_reducible refine g_n7 ?_ | with_reducible refine g_n8 ?_ | with_reducible refine g_n9 ?_ | with_reducible refine g_n10 ?_ | with_reducible refine g_n11 ?_ | with_reducible refine g_n12 ?_)
local macro_rules | `(tactic| walk_at "gs") => `(tactic| first
  | with_reducible refine g_asg ?_ | with_reducible refine g_ret ?_ | with_reducible refine g_if ?_ | with_reducible refine g_drop ?_ | with_reducible refine g_next ?_
  | with_reducible refine g_retN ?_ | with_reducible refine g_brk ?_ | with_reducible refine g_cont ?_ | with_reducible refine g_forA ?_ | with_reducible refine g_sfld ?_)
local macro_rules | `(tactic| walk_at "ge") => `(tactic| first
  | with_reducible refine g_c ?_ | with_reducible refine g_op ?_ | with_reducible refine g_test ?_ | with_reducible refine g_bl ?_ | with_reducible refine g_tB ?_ | with_reducible refine g_not ?_
  | with_reducible refine g_and ?_ | with_reducible refine g_or ?_ | with_reducible refine g_notV ?_ | with_reducible refine g_andV ?_ | with_reducible refine g_orV ?_ | with_reducible refine g_ifE ?_
  | with_reducible refine g_un ?_ | with_reducible refine g_chain ?_ | with_reducible refine g_nil ?_ | with_reducible refine g_cons ?_ | with_reducible refine g_tup ?_ | with_reducible refine g_lst ?_
  | with_reducible refine g_cb ?_ | with_reducible refine g_call ?_ | with_reducible refine g_cmeth ?_ | with_reducible refine g_make ?_ | with_reducible refine g_noPart ?_ | with_reducible refine g_part ?_
  | with_reducible refine g_partI ?_ | with_reducible refine g_sl ?_ | with_reducible refine g_m1 ?_ | with_reducible refine g_m0 ?_ | with_reducible refine g_isS ?_ | with_reducible refine g_gsub ?_
  | with_reducible refine g_gcons ?_ | with_reducible refine g_gnil ?_ | with_reducible refine g_bm ?_ | with_reducible refine g_bm0 ?_ | with_reducible refine g_mk ?_ | with_reducible refine g_lc ?_ | with_reducible refine g_fld ?_ | with_reducible refine g_yes ?_)
local macro_rules | `(tactic| walk_at "go_") => `(tactic| first
  | with_reducible refine g_addI ?_ | with_reducible refine g_subI ?_ | with_reducible refine g_ltI ?_ | with_reducible refine g_leI ?_ | with_reducible refine g_gtI ?_ | with_reducible refine g_geI ?_
  | with_reducible refine g_eqI ?_ | with_reducible refine g_eqS ?_ | with_reducible refine g_neI ?_ | with_reducible refine g_neS ?_
  | with_reducible refine g_isNn ?_ | with_reducible refine g_isNi ?_ | with_reducible refine g_isNs ?_ | with_reducible refine g_isNr ?_
  | with_reducible refine g_notNn ?_ | with_reducible refine g_notNi ?_ | with_reducible refine g_notNs ?_ | with_reducible refine g_notNr ?_ | with_reducible refine g_neg ?_
  | with_reducible refine g_inS ?_ | with_reducible refine g_niS ?_ | with_reducible refine g_iteT ?_ | with_reducible refine g_iteF ?_ | with_reducible refine g_iteNT ?_ | with_reducible refine g_iteNF ?_
  | with_reducible refine g_intI ?_ | with_reducible refine g_intB ?_ | with_reducible refine g_gcd ?_ | with_reducible refine g_max2 ?_ | with_reducible refine g_min2 ?_ | with_reducible refine g_stw ?_ | with_reducible refine g_abs ?_
  | with_reducible refine g_iStr ?_ | with_reducible refine g_exS ?_ | with_reducible refine g_iList ?_ | with_reducible refine g_iTup ?_ | with_reducible refine g_iR1 ?_ | with_reducible refine g_iR2 ?_ | with_reducible refine g_exR1 (by omega) (by omega) ?_ | with_reducible refine g_exR2 (by omega) ?_)
local macro_rules | `(tactic| walk_at "go1") => `(tactic| first | walk_at "gs" | with_reducible refine g_seq ?_ | walk_at "gv" | walk_at "ge" | walk_at "gn" | walk_at "go_")
local macro_rules | `(tactic| walk_at "go") => `(tactic| repeat walk_at "go1")
local macro_rules | `(tactic| walk_at "gl") => `(tactic| first
  | with_reducible refine g_lenS (by assumption) ?_ | with_reducible refine g_lenL (by assumption) ?_ | with_reducible refine g_lenT (by assumption) ?_ | with_reducible refine g_exL (by assumption) ?_ | with_reducible refine g_exT (by assumption) ?_)
local macro_rules | `(tactic| walk_at "gw") => `(tactic| repeat (first | walk_at "gs" | walk_at "gv" | walk_at "ge" | walk_at "gn" | walk_at "go_" | walk_at "gl"))
local macro_rules | `(tactic| walk_at "go2") => `(tactic| first | walk_at "go1" | walk_at "gl")
local macro_rules | `(tactic| walk_at "gg") => `(tactic| repeat walk_at "go2")

theorem wsAl_app {xs ys : List Str} (a : WsAl xs) (b : WsAl ys) : WsAl (xs ++ ys) := fun y hy => by
  rcases List.mem_append.mp hy with hy | hy
  · exact a y hy
  · exact b y hy
theorem wsAl_one {x : Str} (h : Wal x) : WsAl [x] := fun y hy => by rw [List.mem_singleton.mp hy]; exact h
theorem wsAl_two {x z : Str} (h : Wal x) (h2 : Wal z) : WsAl [x, z] := fun y hy => by
  rcases List.mem_cons.mp hy with rfl | hy
  · exact h
  · rw [List.mem_singleton.mp hy]; exact h2
theorem wsAl_take {xs : List Str} (a : WsAl xs) (n : Nat) : WsAl (xs.take n) := fun y hy => a y (List.mem_of_mem_take hy)
theorem wsAl_drop {xs : List Str} (a : WsAl xs) (n : Nat) : WsAl (xs.drop n) := fun y hy => a y (List.mem_of_mem_drop hy)
theorem wal_two {x z : Str} (h : x.length ≤ 60) (hx : Wal x) (h2 : z.length ≤ 4) (hz : Wal z) : Wal (x ++ z) := by
  have e : (x ++ z).length = x.length + z.length := by rw [len_tl, tl_append, List.length_append, ← len_tl, ← len_tl]
  refine ⟨by omega, asc_iff.mpr fun c hc => ?_, fun hc => ?_⟩
  · rw [tl_append] at hc
    rcases List.mem_append.mp hc with hc | hc
    · exact asc_iff.mp hx.asc c hc
    · exact asc_iff.mp hz.asc c hc
  · rw [tl_append] at hc
    rcases List.mem_append.mp hc with hc | hc
    · exact hx.nos hc
    · exact hz.nos hc
theorem wal_two' {x z : Str} (h : x.length ≤ 60) (hx : Wal x) (h2 : z.length ≤ 4) (hz : Wal z) : Wal (z ++ x) := by
  have e : (z ++ x).length = z.length + x.length := by rw [len_tl, tl_append, List.length_append, ← len_tl, ← len_tl]
  refine ⟨by omega, asc_iff.mpr fun c hc => ?_, fun hc => ?_⟩
  · rw [tl_append] at hc
    rcases List.mem_append.mp hc with hc | hc
    · exact asc_iff.mp hz.asc c hc
    · exact asc_iff.mp hx.asc c hc
  · rw [tl_append] at hc
    rcases List.mem_append.mp hc with hc | hc
    · exact hz.nos hc
    · exact hx.nos hc
theorem cut_take {ws : List Str} (n : Nat) : cutV (ws.map V.str) none (some (n : Int)) = (ws.take n).map V.str := by
  unfold cutV
  rw [show HT.sIx (ws.map V.str).length 0 none = 0 from rfl, HT.sIx_nat, List.drop_zero, Nat.sub_zero, List.map_take]
  by_cases c : n ≤ (ws.map V.str).length
  · rw [Nat.min_eq_left c]
  · rw [Nat.min_eq_right (by omega), List.take_of_length_le (Nat.le_refl _), List.take_of_length_le (by omega)]
theorem cut_drop {ws : List Str} (n : Nat) : cutV (ws.map V.str) (some (n : Int)) none = (ws.drop n).map V.str := by
  unfold cutV
  rw [HT.sIx_nat, HT.sIx_none, List.map_drop]
  by_cases c : n ≤ (ws.map V.str).length
  · rw [Nat.min_eq_left c]
    exact List.take_of_length_le (by rw [List.length_drop]; exact Nat.le_refl _)
  · rw [Nat.min_eq_right (by omega), List.drop_of_length_le (Nat.le_refl _), List.drop_of_length_le (by omega)]
    exact List.take_nil
section
variable {P : Program} {w : World} {K : PySem.W.Frag} {mg : Str → Option Value} {base : Heap}
theorem keep {H : Hp} {q m : Addr} {o u : HO} (h : H q = some u) (hm : H m = none) : (upd H m o) q = some u := by rw [upd_ne (ne_of_none h hm)]; exact h
def spChanged : Sp := fun vs H Q _ => ∃ (p l lw : Addr) (ws : List Str) (k : Nat), vs = [.ref p, .ref lw, .int (k : Int)] ∧ PotAt H p l ∧ lw ≠ p ∧ H lw = some (.lst (ws.map V.str)) ∧ WsOk ws ∧ ws ≠ [] ∧ ws.length ≤ 200 ∧ k ≤ 1000 ∧
  ∀ lr rs H', WsAl rs → rs.length ≤ 210 → Pt p l H H' → H' lr = some (.lst (rs.map V.str)) → Q (.ref lr) H'
theorem ok__law_changed (T : Tx fxL fnL K mg) : FnR P w K mg base (L2.CX P w) 3 (ga K "_law_changed") spChanged := by
  refine fun_ok (F__law_changed T) sc__law_changed (fun _ _ _ _ _ _ us hl => match us, hl with | [_, _, _], _ => rfl) ?_ ?_
  · rintro vs H Q E ⟨p, l, lw, ws, k, rfl, _⟩
    rfl
  · rintro cdv A outer s H vs Q E hr ⟨p, l, lw, ws, k, rfl, hp, hlp, hlw, hws, hne, hn, hk, q⟩
    refine ⟨_, (pss_cons (ps_set (i := 3) sc__law_changed.nd rfl (Or.inl rfl) (pe_op o_mod (pe_callTy (c_int (nd_int T)) (by rfl) (z_int T) (by decide +kernel) (pa_cons (pe_op o_add (pe_callF ((ok__law_digit T).mono (by decide)) hr (takes_of rfl rfl rfl rfl) (by rfl) (gm__law_digit T) (k__law_digit T) (pa_cons (pv 0) (pa_cons pe_int pa_nil))) (pe_op o_mul pe_int (pv 2))) pa_nil)) pe_int))
 (pss_cons (ps_set (i := 4) sc__law_changed.nd rfl (Or.inl rfl) (pe_op o_mod (pe_callTy (c_int (nd_int T)) (by rfl) (z_int T) (by decide +kernel) (pa_cons (pe_op o_add (pe_callF ((ok__law_digit T).mono (by decide)) hr (takes_of rfl rfl rfl rfl) (by rfl) (gm__law_digit T) (k__law_digit T) (pa_cons (pv 0) (pa_cons (pe_callB b_len (by rfl) (z_len T) (by decide +kernel) (pa_cons (pv 1) pa_nil)) pa_nil))) (pe_op o_mul pe_int (pv 2))) pa_nil)) (pe_callB b_len (by rfl) (z_len T) (by decide +kernel) (pa_cons (pv 1) pa_nil))))
 (pss_cons (ps_set (i := 5) sc__law_changed.nd rfl (Or.inl rfl) (pe_ix ix_seq (pv 1) (pv 4) (fun _ _ => rfl)))
 (pss_cons (ps_set (i := 6) sc__law_changed.nd rfl (Or.inl rfl) (pe_slice o_sl (pv 1) po_none (po_some (pv 4))))
 (pss_cons (ps_set (i := 7) sc__law_changed.nd rfl (Or.inl rfl) (pe_slice o_sl (pv 1) (po_some (pe_op o_add (pv 4) pe_int)) po_none))
 (pss_cons (ps_if (pt_cmpR (o_eq hr.units) (pv 3) pe_int (nomark _)) (pss_one (ps_ret (pe_op o_add (pv 6) (pv 7)))) pss_nil)
 (pss_cons (ps_if (pt_cmpR (o_eq hr.units) (pv 3) pe_int (nomark _)) (pss_one (ps_ret (pe_op o_add (pe_op o_add (pv 6) (pe_lst (pa_cons (pv 5) (pa_cons (pv 5) pa_nil)))) (pv 7)))) pss_nil)
 (pss_cons (ps_if (pt_cmpR (o_eq hr.units) (pv 3) pe_int (nomark _)) (pss_one (ps_ret (pe_op o_add (pe_op o_add (pe_op o_add (pv 6) (pe_slice o_sl (pv 7) po_none (po_some pe_int))) (pe_lst (pa_cons (pv 5) pa_nil))) (pe_slice o_sl (pv 7) (po_some pe_int) po_none)))) pss_nil)
 (pss_cons (ps_if (pt_cmpR (o_eq hr.units) (pv 3) pe_int (nomark _)) (pss_one (ps_ret (pe_op o_add (pe_op o_add (pv 6) (pe_lst (pa_cons (pe_callF ((ok__law_spare T).mono (by decide)) hr (takes_of rfl rfl rfl rfl) (by rfl) (gm__law_spare T) (k__law_spare T) (pa_cons (pv 0) (pa_cons (pv 2) pa_nil))) pa_nil))) (pv 7)))) pss_nil)
 (pss_cons (ps_if (pt_cmpR (o_eq hr.units) (pv 3) pe_int (nomark _)) (pss_one (ps_ret (pe_op o_add (pe_op o_add (pv 6) (pe_lst (pa_cons pe_str (pa_cons (pv 5) pa_nil)))) (pv 7)))) pss_nil)
 (pss_cons (ps_if (pt_cmpR (o_eq hr.units) (pv 3) pe_int (nomark _)) (pss_one (ps_ret (pv 6))) pss_nil)
 (pss_cons (ps_if (pt_cmpR (o_eq hr.units) (pv 3) pe_int (nomark _)) (pss_one (ps_ret (pe_op o_add (pe_op o_add (pv 6) (pe_lst (pa_cons (pe_callF ((ok__law_spare T).mono (by decide)) hr (takes_of rfl rfl rfl rfl) (by rfl) (gm__law_spare T) (k__law_spare T) (pa_cons (pv 0) (pa_cons (pv 2) pa_nil))) (pa_cons (pv 5) pa_nil)))) (pv 7)))) pss_nil)
 (pss_cons (ps_if (pt_cmpR (o_eq hr.units) (pv 3) pe_int (nomark _)) (pss_one (ps_ret (pe_op o_add (pv 1) (pe_lst (pa_cons (pe_callF ((ok__law_spare T).mono (by decide)) hr (takes_of rfl rfl rfl rfl) (by rfl) (gm__law_spare T) (k__law_spare T) (pa_cons (pv 0) (pa_cons (pv 2) pa_nil))) pa_nil))))) pss_nil)
 (pss_cons (ps_set (i := 8) sc__law_changed.nd rfl (Or.inl rfl) (pe_ix ix_seq (pe_lst (pa_cons pe_str (pa_cons pe_str (pa_cons pe_str (pa_cons pe_str (pa_cons pe_str pa_nil)))))) (pe_op o_mod (pe_callTy (c_int (nd_int T)) (by rfl) (z_int T) (by decide +kernel) (pa_cons (pe_op o_add (pe_callF ((ok__law_digit T).mono (by decide)) hr (takes_of rfl rfl rfl rfl) (by rfl) (gm__law_digit T) (k__law_digit T) (pa_cons (pv 0) (pa_cons pe_int pa_nil))) (pv 2)) pa_nil)) pe_int) (fun _ _ => rfl)))
 (pss_cons (ps_if (pt_cmpR (o_eq hr.units) (pe_callF ((ok__law_digit T).mono (by decide)) hr (takes_of rfl rfl rfl rfl) (by rfl) (gm__law_digit T) (k__law_digit T) (pa_cons (pv 0) (pa_cons pe_int pa_nil))) pe_int (nomark _)) (pss_one (ps_ret (pe_op o_add (pe_op o_add (pv 6) (pe_lst (pa_cons (pe_op o_add (pv 8) (pv 5)) pa_nil))) (pv 7)))) pss_nil)
 (pss_one (ps_ret (pe_op o_add (pe_op o_add (pv 6) (pe_lst (pa_cons (pe_op o_add (pv 5) (pv 8)) pa_nil))) (pv 7))))))))))))))))))), ?_⟩
    refine g_start (σ := [some (.ref p), some (.ref lw), some (.int (k : Int)), none, none, none, none, none, none]) rfl ?_
    have hmn : (ws.map V.str).length = ws.length := List.length_map _
    have hpos : 0 < ws.length := List.length_pos_iff.mpr hne
    walk_at "gg"
    refine ⟨p, l, 9, rfl, hp, by decide, by decide, fun r1 H1 h1 pt1 => ?_⟩
    have hl1 := pt1.at hlw hlp
    walk_at "gg"
    refine g_mulI (mulS (by decide) (by omega)) ?_
    walk_at "gg"
    refine g_modI (by decide) ?_
    obtain ⟨wy, hwy, hwy2⟩ : ∃ wy : Nat, ((r1 : Int) + 2 * (k : Int)) % 9 = (wy : Int) ∧ wy < 9 := ⟨(((r1 : Int) + 2 * (k : Int)) % 9).toNat, by omega, by omega⟩
    rw [hwy]
    walk_at "gg"
    refine g_lenL (.inl (.inl hl1)) ?_
    rw [hmn]
    walk_at "gg"
    refine ⟨p, l, ws.length, rfl, pt1.pot, hpos, Nat.lt_of_le_of_lt (Nat.log2_le_self _) (by omega), fun r2 H2 h2 pt2 => ?_⟩
    have hl2 := pt2.at hl1 hlp
    have ptb := pt1.trans pt2
    walk_at "gg"
    refine g_mulI (mulS (by decide) (by omega)) ?_
    walk_at "gg"
    refine g_lenL (.inl (.inl hl2)) ?_
    rw [hmn]
    walk_at "gg"
    refine g_modI (by omega) ?_
    obtain ⟨a, ha, ha2⟩ : ∃ a : Nat, ((r2 : Int) + 3 * (k : Int)) % (ws.length : Int) = (a : Int) ∧ a < ws.length := ⟨(((r2 : Int) + 3 * (k : Int)) % (ws.length : Int)).toNat, (Int.toNat_of_nonneg (Int.emod_nonneg _ (by omega))).symm, by
      have := Int.emod_lt_of_pos ((r2 : Int) + 3 * (k : Int)) (show (0 : Int) < (ws.length : Int) by omega)
      have := Int.emod_nonneg ((r2 : Int) + 3 * (k : Int)) (show (ws.length : Int) ≠ 0 by omega)
      omega⟩
    rw [ha]
    walk_at "gg"
    refine g_ixL (.inl (.inl hl2)) (wd_at ha2) ?_
    walk_at "gg"
    refine .inl ⟨lw, _, rfl, .inl (.inl hl2), fun lh hlh => ?_⟩
    rw [cut_take]
    have pt3 := ptb.new (o := .lst ((ws.take a).map V.str)) hlh
    have hl3 : (upd H2 lh (.lst ((ws.take a).map V.str))) lw = some (.lst (ws.map V.str)) := by rw [upd_ne (ne_of_none hl2 hlh)]; exact hl2
    walk_at "gg"
    refine .inl ⟨lw, _, rfl, .inl (.inl hl3), fun lt hlt => ?_⟩
    rw [show ((a : Int) + 1) = ((a + 1 : Nat) : Int) from rfl, cut_drop]
    have pt4 := pt3.new (o := .lst ((ws.drop (a + 1)).map V.str)) hlt
    walk_at "gg"
    have wal := hws.al
    have wt := wsAl_take wal a
    have wr := wsAl_drop wal (a + 1)
    have wx : Wok (wd ws a) := hws _ (wd_mem ha2)
    have lt1 : (ws.take a).length = a := by rw [List.length_take]; omega
    have lt2 : (ws.drop (a + 1)).length = ws.length - (a + 1) := List.length_drop
    have A : (upd (upd H2 lh (.lst ((ws.take a).map V.str))) lt (.lst ((ws.drop (a + 1)).map V.str))) lh = some (.lst ((ws.take a).map V.str)) := by rw [upd_ne (ne_of_none upd_same hlt)]; exact upd_same
    have B : (upd (upd H2 lh (.lst ((ws.take a).map V.str))) lt (.lst ((ws.drop (a + 1)).map V.str))) lt = some (.lst ((ws.drop (a + 1)).map V.str)) := upd_same
    have C : (upd (upd H2 lh (.lst ((ws.take a).map V.str))) lt (.lst ((ws.drop (a + 1)).map V.str))) lw = some (.lst (ws.map V.str)) := by rw [upd_ne (ne_of_none hl3 hlt)]; exact hl3
    have nh : lh ≠ p := fun e => (ptb.pot.ne hlh).1 e.symm
    have nt : lt ≠ p := fun e => (pt3.pot.ne hlt).1 e.symm
    have fin : ∀ {H5 : Hp} {rs : List Str} {lr : Addr} {xs : List V}, Pt p l H H5 → WsAl rs → rs.length ≤ 210 → H5 lr = none → xs = rs.map V.str → Q (.ref lr) (upd H5 lr (.lst xs)) := fun pt w n h e => by
      subst e
      exact q _ _ _ w n (pt.new h) upd_same
    generalize hH4 : upd (upd H2 lh (.lst ((ws.take a).map V.str))) lt (.lst ((ws.drop (a + 1)).map V.str)) = H4 at *
    refine g_ite (fun c0 => ?_) (fun c0 => ?_)
    · walk_at "gg"
      refine g_addL A B (szS (by rw [lt1, lt2]; omega)) fun m3 hm3 => ?_
      exact fin (rs := ws.take a ++ ws.drop (a + 1)) pt4 (wsAl_app wt wr) (by rw [List.length_append, lt1, lt2]; omega) hm3 mapS
    · walk_at "gg"
      refine g_ite (fun c1 => ?_) (fun c1 => ?_)
      · walk_at "gg"
        refine ⟨le_size (by show 2 ≤ 64; decide), fun m1 hm1 => ?_⟩
        have A1 := keep (o := .lst (([wd ws a, wd ws a] : List Str).map V.str)) A hm1
        have B1 := keep (o := .lst (([wd ws a, wd ws a] : List Str).map V.str)) B hm1
        have pt5 := pt4.new (o := .lst (([wd ws a, wd ws a] : List Str).map V.str)) hm1
        walk_at "gg"
        refine g_addL A1 upd_same (szS (ys := [wd ws a, wd ws a]) (by rw [lt1]; show _ + 2 ≤ _; omega)) fun m2 hm2 => ?_
        have B2 := keep (o := .lst ((ws.take a).map V.str ++ ([wd ws a, wd ws a] : List Str).map V.str)) B1 hm2
        have pt6 := pt5.new (o := .lst ((ws.take a).map V.str ++ ([wd ws a, wd ws a] : List Str).map V.str)) hm2
        walk_at "gg"
        refine g_addL upd_same B2 (by rw [List.length_append, List.length_map, List.length_map, lt1, lt2, sizeLine_eq]; show _ + 2 + _ ≤ _; omega) fun m3 hm3 => ?_
        exact fin (rs := ws.take a ++ [wd ws a, wd ws a] ++ ws.drop (a + 1)) pt6 (wsAl_app (wsAl_app wt (wsAl_two wx.al wx.al)) wr) (by rw [List.length_append, List.length_append, lt1, lt2]; show _ + 2 + _ ≤ _; omega) hm3 (by rw [List.map_append, List.map_append]; rfl)
      · walk_at "gg"
        refine g_ite (fun c2 => ?_) (fun c2 => ?_)
        · walk_at "gg"
          refine .inl ⟨lt, _, rfl, .inl (.inl B), fun m1 hm1 => ?_⟩
          rw [show (1 : Int) = ((1 : Nat) : Int) from rfl, cut_take]
          have A1 := keep (o := .lst (((ws.drop (a + 1)).take 1).map V.str)) A hm1
          have B1 := keep (o := .lst (((ws.drop (a + 1)).take 1).map V.str)) B hm1
          have pt5 := pt4.new (o := .lst (((ws.drop (a + 1)).take 1).map V.str)) hm1
          have lt3 : ((ws.drop (a + 1)).take 1).length ≤ 1 := by rw [List.length_take]; omega
          walk_at "gg"
          refine g_addL A1 upd_same (szS (by rw [lt1]; omega)) fun m2 hm2 => ?_
          rw [mapS]
          have B2 := keep (o := .lst ((ws.take a ++ (ws.drop (a + 1)).take 1).map V.str)) B1 hm2
          have pt6 := pt5.new (o := .lst ((ws.take a ++ (ws.drop (a + 1)).take 1).map V.str)) hm2
          have lt4 : (ws.take a ++ (ws.drop (a + 1)).take 1).length = a + ((ws.drop (a + 1)).take 1).length := by rw [List.length_append, lt1]
          walk_at "gg"
          refine ⟨one_le, fun m3 hm3 => ?_⟩
          have B3 := keep (o := .lst (([wd ws a] : List Str).map V.str)) B2 hm3
          have pt7 := pt6.new (o := .lst (([wd ws a] : List Str).map V.str)) hm3
          walk_at "gg"
          refine g_addL (by rw [upd_ne (ne_of_none upd_same hm3)]; exact upd_same) upd_same (szS (ys := [wd ws a]) (by rw [lt4]; show _ + 1 ≤ _; omega)) fun m4 hm4 => ?_
          have B4 := keep (o := .lst ((ws.take a ++ (ws.drop (a + 1)).take 1).map V.str ++ ([wd ws a] : List Str).map V.str)) B3 hm4
          have pt8 := pt7.new (o := .lst ((ws.take a ++ (ws.drop (a + 1)).take 1).map V.str ++ ([wd ws a] : List Str).map V.str)) hm4
          walk_at "gg"
          refine .inl ⟨lt, _, rfl, .inl (.inl B4), fun m5 hm5 => ?_⟩
          rw [cut_drop]
          have pt9 := pt8.new (o := .lst (((ws.drop (a + 1)).drop 1).map V.str)) hm5
          have lt5 : ((ws.drop (a + 1)).drop 1).length ≤ ws.length - (a + 1) := by rw [List.length_drop, lt2]; omega
          walk_at "gg"
          refine g_addL (by rw [upd_ne (ne_of_none upd_same hm5)]; exact upd_same) upd_same (by rw [List.length_append, List.length_map, List.length_map, lt4, sizeLine_eq]; show _ + 1 + _ ≤ _; omega) fun m6 hm6 => ?_
          exact fin (rs := ws.take a ++ (ws.drop (a + 1)).take 1 ++ [wd ws a] ++ (ws.drop (a + 1)).drop 1) pt9 (wsAl_app (wsAl_app (wsAl_app wt (wsAl_take wr 1)) (wsAl_one wx.al)) (wsAl_drop wr 1)) (by rw [List.length_append, List.length_append, lt4]; show _ + 1 + _ ≤ _; omega) hm6 (by simp only [List.map_append, List.map_cons, List.map_nil])
        · walk_at "gg"
          refine g_ite (fun c3 => ?_) (fun c3 => ?_)
          · walk_at "gg"
            refine ⟨p, l, k, rfl, pt4.pot, hk, fun x H5 hx pt45 => ?_⟩
            have ptS := pt4.trans pt45
            have AS := pt45.at A nh
            have BS := pt45.at B nt
            have CS := pt45.at C hlp
            walk_at "gg"
            refine ⟨le_size (by show 1 ≤ 64; decide), fun m1 hm1 => ?_⟩
            have A1 := keep (o := .lst (([x] : List Str).map V.str)) AS hm1
            have B1 := keep (o := .lst (([x] : List Str).map V.str)) BS hm1
            have pt5 := ptS.new (o := .lst (([x] : List Str).map V.str)) hm1
            walk_at "gg"
            refine g_addL A1 upd_same (szS (ys := [x]) (by rw [lt1]; show _ + 1 ≤ _; omega)) fun m2 hm2 => ?_
            have B2 := keep (o := .lst ((ws.take a).map V.str ++ ([x] : List Str).map V.str)) B1 hm2
            have pt6 := pt5.new (o := .lst ((ws.take a).map V.str ++ ([x] : List Str).map V.str)) hm2
            walk_at "gg"
            refine g_addL upd_same B2 (by rw [List.length_append, List.length_map, List.length_map, lt1, lt2, sizeLine_eq]; show _ + 1 + _ ≤ _; omega) fun m3 hm3 => ?_
            exact fin (rs := ws.take a ++ [x] ++ ws.drop (a + 1)) pt6 (wsAl_app (wsAl_app wt (wsAl_one hx.al)) wr) (by rw [List.length_append, List.length_append, lt1, lt2]; show _ + 1 + _ ≤ _; omega) hm3 (by rw [List.map_append, List.map_append]; rfl)
          · walk_at "gg"
            refine g_ite (fun c4 => ?_) (fun c4 => ?_)
            · walk_at "gg"
              refine ⟨le_size (by show 2 ≤ 64; decide), fun m1 hm1 => ?_⟩
              have A1 := keep (o := .lst (([("" : Str), wd ws a] : List Str).map V.str)) A hm1
              have B1 := keep (o := .lst (([("" : Str), wd ws a] : List Str).map V.str)) B hm1
              have pt5 := pt4.new (o := .lst (([("" : Str), wd ws a] : List Str).map V.str)) hm1
              walk_at "gg"
              refine g_addL A1 upd_same (szS (ys := [("" : Str), wd ws a]) (by rw [lt1]; show _ + 2 ≤ _; omega)) fun m2 hm2 => ?_
              have B2 := keep (o := .lst ((ws.take a).map V.str ++ ([("" : Str), wd ws a] : List Str).map V.str)) B1 hm2
              have pt6 := pt5.new (o := .lst ((ws.take a).map V.str ++ ([("" : Str), wd ws a] : List Str).map V.str)) hm2
              walk_at "gg"
              refine g_addL upd_same B2 (by rw [List.length_append, List.length_map, List.length_map, lt1, lt2, sizeLine_eq]; show _ + 2 + _ ≤ _; omega) fun m3 hm3 => ?_
              exact fin (rs := ws.take a ++ [("" : Str), wd ws a] ++ ws.drop (a + 1)) pt6 (wsAl_app (wsAl_app wt (wsAl_two (Wok.al wok_by) wx.al)) wr) (by rw [List.length_append, List.length_append, lt1, lt2]; show _ + 2 + _ ≤ _; omega) hm3 (by rw [List.map_append, List.map_append]; rfl)
            · walk_at "gg"
              refine g_ite (fun c5 => ?_) (fun c5 => ?_)
              · walk_at "gg"
                exact q lh _ _ wt (by rw [lt1]; omega) pt4 A
              · walk_at "gg"
                refine g_ite (fun c6 => ?_) (fun c6 => ?_)
                · walk_at "gg"
                  refine ⟨p, l, k, rfl, pt4.pot, hk, fun x H5 hx pt45 => ?_⟩
                  have ptS := pt4.trans pt45
                  have AS := pt45.at A nh
                  have BS := pt45.at B nt
                  have CS := pt45.at C hlp
                  walk_at "gg"
                  refine ⟨le_size (by show 2 ≤ 64; decide), fun m1 hm1 => ?_⟩
                  have A1 := keep (o := .lst (([x, wd ws a] : List Str).map V.str)) AS hm1
                  have B1 := keep (o := .lst (([x, wd ws a] : List Str).map V.str)) BS hm1
                  have pt5 := ptS.new (o := .lst (([x, wd ws a] : List Str).map V.str)) hm1
                  walk_at "gg"
                  refine g_addL A1 upd_same (szS (ys := [x, wd ws a]) (by rw [lt1]; show _ + 2 ≤ _; omega)) fun m2 hm2 => ?_
                  have B2 := keep (o := .lst ((ws.take a).map V.str ++ ([x, wd ws a] : List Str).map V.str)) B1 hm2
                  have pt6 := pt5.new (o := .lst ((ws.take a).map V.str ++ ([x, wd ws a] : List Str).map V.str)) hm2
                  walk_at "gg"
                  refine g_addL upd_same B2 (by rw [List.length_append, List.length_map, List.length_map, lt1, lt2, sizeLine_eq]; show _ + 2 + _ ≤ _; omega) fun m3 hm3 => ?_
                  exact fin (rs := ws.take a ++ [x, wd ws a] ++ ws.drop (a + 1)) pt6 (wsAl_app (wsAl_app wt (wsAl_two hx.al wx.al)) wr) (by rw [List.length_append, List.length_append, lt1, lt2]; show _ + 2 + _ ≤ _; omega) hm3 (by rw [List.map_append, List.map_append]; rfl)
                · walk_at "gg"
                  refine g_ite (fun c7 => ?_) (fun c7 => ?_)
                  · walk_at "gg"
                    refine ⟨p, l, k, rfl, pt4.pot, hk, fun x H5 hx pt45 => ?_⟩
                    have ptS := pt4.trans pt45
                    have AS := pt45.at A nh
                    have BS := pt45.at B nt
                    have CS := pt45.at C hlp
                    walk_at "gg"
                    refine ⟨one_le, fun m1 hm1 => ?_⟩
                    have C1 := keep (o := .lst (([x] : List Str).map V.str)) CS hm1
                    have pt5 := ptS.new (o := .lst (([x] : List Str).map V.str)) hm1
                    walk_at "gg"
                    refine g_addL C1 upd_same (szS (ys := [x]) (by show _ + 1 ≤ _; omega)) fun m2 hm2 => ?_
                    exact fin (rs := ws ++ [x]) pt5 (wsAl_app wal (wsAl_one hx.al)) (by rw [List.length_append]; show _ + 1 ≤ _; omega) hm2 (by rw [List.map_append]; rfl)
                  · walk_at "gg"
                    refine ⟨le_size (by show 5 ≤ 64; decide), fun m0 hm0 => ?_⟩
                    have pt5 := pt4.new (o := .lst [V.str "0", V.str "+", V.str "-", V.str "x", V.str "\n"]) hm0
                    have A0 := keep (o := .lst [V.str "0", V.str "+", V.str "-", V.str "x", V.str "\n"]) A hm0
                    have B0 := keep (o := .lst [V.str "0", V.str "+", V.str "-", V.str "x", V.str "\n"]) B hm0
                    have n0 : m0 ≠ p := fun e => (pt4.pot.ne hm0).1 e.symm
                    walk_at "gg"
                    refine ⟨p, l, 5, rfl, pt5.pot, by decide, by decide, fun r3 H6 h6 pt6 => ?_⟩
                    have hm06 := pt6.at upd_same n0
                    walk_at "gg"
                    refine g_modI (by decide) ?_
                    obtain ⟨sg, hsg, hat⟩ : ∃ sg : Str, (Wal sg ∧ sg.length ≤ 4) ∧ atI [V.str "0", V.str "+", V.str "-", V.str "x", V.str "\n"] (((r3 : Int) + (k : Int)) % 5) = some (.str sg) := by
                      obtain ⟨kd, hkd, hkd2⟩ : ∃ kd : Nat, ((r3 : Int) + (k : Int)) % 5 = (kd : Int) ∧ kd < 5 := ⟨(((r3 : Int) + (k : Int)) % 5).toNat, by omega, by omega⟩
                      rw [hkd]
                      rcases (show kd = 0 ∨ kd = 1 ∨ kd = 2 ∨ kd = 3 ∨ kd = 4 by omega) with rfl | rfl | rfl | rfl | rfl
                      · exact ⟨_, ⟨(Wok.al wok_by), by decide +kernel⟩, rfl⟩
                      · exact ⟨_, ⟨(Wok.al wok_by), by decide +kernel⟩, rfl⟩
                      · exact ⟨_, ⟨(Wok.al wok_by), by decide +kernel⟩, rfl⟩
                      · exact ⟨_, ⟨(Wok.al wok_by), by decide +kernel⟩, rfl⟩
                      · exact ⟨_, ⟨(Wok.al wok_by), by decide +kernel⟩, rfl⟩
                    refine g_ixL (.inl (.inl hm06)) hat ?_
                    walk_at "gg"
                    refine ⟨p, l, 2, rfl, (pt5.trans pt6).pot, by decide, by decide, fun r4 H7 h7 pt7 => ?_⟩
                    have ptS := (pt5.trans pt6).trans pt7
                    have AS := pt7.at (pt6.at A0 nh) nh
                    have BS := pt7.at (pt6.at B0 nt) nt
                    have ls60 := wx.len
                    have ls4 := hsg.2
                    walk_at "gg"
                    refine g_ite (fun c8 => ?_) (fun c8 => ?_)
                    · walk_at "gg"
                      refine g_addS (by rw [sizeLine_eq]; omega) ?_
                      walk_at "gg"
                      refine ⟨le_size (by show 1 ≤ 64; decide), fun m1 hm1 => ?_⟩
                      have A1 := keep (o := .lst (([sg ++ wd ws a] : List Str).map V.str)) AS hm1
                      have B1 := keep (o := .lst (([sg ++ wd ws a] : List Str).map V.str)) BS hm1
                      have pt5 := ptS.new (o := .lst (([sg ++ wd ws a] : List Str).map V.str)) hm1
                      walk_at "gg"
                      refine g_addL A1 upd_same (szS (ys := [sg ++ wd ws a]) (by rw [lt1]; show _ + 1 ≤ _; omega)) fun m2 hm2 => ?_
                      have B2 := keep (o := .lst ((ws.take a).map V.str ++ ([sg ++ wd ws a] : List Str).map V.str)) B1 hm2
                      have pt6 := pt5.new (o := .lst ((ws.take a).map V.str ++ ([sg ++ wd ws a] : List Str).map V.str)) hm2
                      walk_at "gg"
                      refine g_addL upd_same B2 (by rw [List.length_append, List.length_map, List.length_map, lt1, lt2, sizeLine_eq]; show _ + 1 + _ ≤ _; omega) fun m3 hm3 => ?_
                      exact fin (rs := ws.take a ++ [sg ++ wd ws a] ++ ws.drop (a + 1)) pt6 (wsAl_app (wsAl_app wt (wsAl_one (wal_two' wx.len wx.al hsg.2 hsg.1))) wr) (by rw [List.length_append, List.length_append, lt1, lt2]; show _ + 1 + _ ≤ _; omega) hm3 (by rw [List.map_append, List.map_append]; rfl)
                    · walk_at "gg"
                      refine g_addS (by rw [sizeLine_eq]; omega) ?_
                      walk_at "gg"
                      refine ⟨le_size (by show 1 ≤ 64; decide), fun m1 hm1 => ?_⟩
                      have A1 := keep (o := .lst (([wd ws a ++ sg] : List Str).map V.str)) AS hm1
                      have B1 := keep (o := .lst (([wd ws a ++ sg] : List Str).map V.str)) BS hm1
                      have pt5 := ptS.new (o := .lst (([wd ws a ++ sg] : List Str).map V.str)) hm1
                      walk_at "gg"
                      refine g_addL A1 upd_same (szS (ys := [wd ws a ++ sg]) (by rw [lt1]; show _ + 1 ≤ _; omega)) fun m2 hm2 => ?_
                      have B2 := keep (o := .lst ((ws.take a).map V.str ++ ([wd ws a ++ sg] : List Str).map V.str)) B1 hm2
                      have pt6 := pt5.new (o := .lst ((ws.take a).map V.str ++ ([wd ws a ++ sg] : List Str).map V.str)) hm2
                      walk_at "gg"
                      refine g_addL upd_same B2 (by rw [List.length_append, List.length_map, List.length_map, lt1, lt2, sizeLine_eq]; show _ + 1 + _ ≤ _; omega) fun m3 hm3 => ?_
                      exact fin (rs := ws.take a ++ [wd ws a ++ sg] ++ ws.drop (a + 1)) pt6 (wsAl_app (wsAl_app wt (wsAl_one (wal_two wx.len wx.al hsg.2 hsg.1))) wr) (by rw [List.length_append, List.length_append, lt1, lt2]; show _ + 1 + _ ≤ _; omega) hm3 (by rw [List.map_append, List.map_append]; rfl)
end
end My
namespace My
open PySem PySem.Spec PyProof.Rows L2 He He5 Go NumT RatA TL TxtA DeqA
local macro_rules | `(tactic| walk_at "gv") => `(tactic| first
  | with_reducible refine g_v0 ?_ | with_reducible refine g_v1 ?_ | with_reducible refine g_v2 ?_ | with_reducible refine g_v3 ?_ | with_reducible refine g_v4 ?_ | with_reducible refine g_v5 ?_
  | with_reducible refine g_v6 ?_ | with_reducible refine g_v7 ?_ | with_reducible refine g_v8 ?_ | with_reducible refine g_v9 ?_ | with_reducible refine g_v10 ?_ | with_reducible refine g_v11 ?_ | with_reducible refine g_v12 ?_)
local macro_rules | `(tactic| walk_at "gn") => `(tactic| first
  | with_reducible refine g_n0 ?_ | with_reducible refine g_n1 ?_ | with_reducible refine g_n2 ?_ | with_reducible refine g_n3 ?_ | with_reducible refine g_n4 ?_ | with_reducible refine g_n5 ?_
  | with_reducible refine g_n6 ?_ | with_reducible refine g_n7 ?_ | with_reducible refine g_n8 ?_ | with_reducible refine g_n9 ?_ | with_reducible refine g_n10 ?_ | with_reducible refine g_n11 ?_ | with_reducible refine g_n12 ?_)
local macro_rules | `(tactic| walk_at "gs") => `(tactic| first
  | with_reducible refine g_asg ?_ | with_reducible refine g_ret ?_ | with_reducible refine g_if ?_ | with_reducible refine g_drop ?_ | with_reducible refine g_next ?_
  | with_reducible refine g_retN ?_ | with_reducible refine g_brk ?_ | with_reducible refine g_cont ?_ | with_reducible refine g_forA ?_ | with_reducible refine g_sfld ?_)
local macro_rules | `(tactic| walk_at "ge") => `(tactic| first
  | with_reducible refine g_c ?_ | with_reducible refine g_op ?_ | with_reducible refine g_test ?_ | with_reducible refine g_bl ?_ | with_reducible refine g_tB ?_ | with_reducible refine g_not ?_
  | with_reducible refine g_and ?_ | with_reducible refine g_or ?_ | with_reducible refine g_notV ?_ | with_reducible refine g_andV ?_ | with_reducible refine g_orV ?_ | with_reducible refine g_ifE ?_
  | with_reducible refine g_un ?_ | with_reducible refine g_chain ?_ | with_reducible refine g_nil ?_ | with_reducible refine g_cons ?_ | with_reducible refine g_tup ?_ | with_reducible refine g_lst ?_
  | with_reducible refine g_cb ?_ | with_reducible refine g_call ?_ | with_reducible refine g_cmeth ?_ | with_reducible refine g_make ?_ | with_reducible refine g_noPart ?_ | with_reducible refine g_part ?_
  | with_reducible refine g_partI ?_ | with_reducible refine g_sl ?_ | with_reducible refine g_m1 ?_ | with_reducible refine g_m0 ?_ | with_reducible refine g_isS ?_ | with_reducible refine g_gsub ?_
  | with_reducible refine g_gcons ?_ | with_reducible refine g_gnil ?_ | with_reducible refine g_bm ?_ | with_reducible refine g_bm0 ?_ | with_reducible refine g_mk ?_ | with_reducible refine g_lc ?_ | with_reducible refine g_fld ?_ | with_reducible refine g_yes ?_)
local macro_rules | `(tactic| walk_at "go_") => `(tactic| first
  | with_reducible refine g_addI ?_ | with_reducible refine g_subI ?_ | with_reducible refine g_ltI ?_ | with_reducible refine g_leI ?_ | with_reducible refine g_gtI ?_ | with_reducible refine g_geI ?_
  | with_reducible refine g_eqI ?_ | with_reducible refine g_eqS ?_ | with_reducible refine g_neI ?_ | with_reducible refine g_neS ?_
  | with_reducible refine g_isNn ?_ | with_reducible refine g_isNi ?_ | with_reducible refine g_isNs ?_ | with_reducible refine g_isNr ?_
  | with_reducible refine g_notNn ?_ | with_reducible refine g_notNi ?_ | with_reducible refine g_notNs ?_ | with_reducible refine g_notNr ?_ | with_reducible refine g_neg ?_
  | with_reducible refine g_inS ?_ | with_reducible refine g_niS ?_ | with_reducible refine g_iteT ?_ | with_reducible refine g_iteF ?_ | with_reducible refine g_iteNT ?_ | with_reducible refine g_iteNF ?_
  | with_reducible refine g_intI ?_ | with_reducible refine g_intB ?_ | with_reducible refine g_gcd ?_ | with_reducible refine g_max2 ?_ | with_reducible refine g_min2 ?_ | with_reducible refine g_stw ?_ | with_reducible refine g_abs ?_
  | with_reducible refine g_iStr ?_ | with_reducible refine g_exS ?_ | with_reducible refine g_iList ?_ | with_reducible refine g_iTup ?_ | with_reducible refine g_iR1 ?_ | with_reducible refine g_iR2 ?_ | with_reducible refine g_exR1 (by omega) (by omega) ?_ | with_reducible refine g_exR2 (by omega) ?_)
local macro_rules | `(tactic| walk_at "go1") => `(tactic| first | walk_at "gs" | with_reducible refine g_seq ?_ | walk_at "gv" | walk_at "ge" | walk_at "gn" | walk_at "go_")
local macro_rules | `(tactic| walk_at "go") => `(tactic| repeat walk_at "go1")
local macro_rules | `(tactic| walk_at "gl") => `(tactic| first
  | with_reducible refine g_lenS (by assumption) ?_ | with_reducible refine g_lenL (by assumption) ?_ | with_reducible refine g_lenT (by assumption) ?_ | with_reducible refine g_exL (by assumption) ?_ | with_reducible refine g_exT (by assumption) ?_)
local macro_rules | `(tactic| walk_at "gw") => `(tactic| repeat (first | walk_at "gs" | walk_at "gv" | walk_at "ge" | walk_at "gn" | walk_at "go_" | walk_at "gl"))
local macro_rules | `(tactic| walk_at "go2") => `(tactic| first | walk_at "go1" | walk_at "gl")
local macro_rules | `(tactic| walk_at "gg") => `(tactic| repeat walk_at "go2")

/-! ### runs over words and over lists -/
theorem runL_run {ws : List Str} : ∀ (xs rest : List Str) (k : Nat) (a b : StA), ws.drop k = xs ++ rest → runL a xs = some b → RunA ws k a (k + xs.length) b
  | [], rest, k, a, b, _, h => by
    rw [Option.some.inj h]
    exact .refl k b
  | x :: xs, rest, k, a, b, hd, h => by
    have hk : k < ws.length := by
      have e := congrArg List.length hd
      rw [List.length_drop, List.length_append, List.length_cons] at e
      omega
    have hx : wd ws k = x := by
      have e : (ws.drop k)[0]? = some x := by rw [hd]; rfl
      rw [List.getElem?_drop, Nat.add_zero, wd_lt hk] at e
      exact Option.some.inj e
    have hd2 : ws.drop (k + 1) = xs ++ rest := by
      rw [← List.drop_drop, hd]
      rfl
    cases e : stepA a x with
    | none =>
      have : runL a (x :: xs) = none := by show (stepA a x).bind _ = _; rw [e]; rfl
      rw [this] at h
      cases h
    | some c =>
      rw [runL_cons e] at h
      have ih := runL_run xs rest (k + 1) c b hd2 h
      rw [List.length_cons, show k + (xs.length + 1) = k + 1 + xs.length by omega]
      exact (RunA.one hk (by rw [hx]; exact e)).trans ih
theorem law_ok {ws : List Str} {s : Int} (hl : ws.length ≤ 200) (h : runL initA ws = some ⟨[], [("after" : Str)], s⟩) : LawAt ws (-1) := by
  have e : ws.take 200 = ws := List.take_of_length_le hl
  have r := runL_run (ws := ws) ws [] 0 initA _ (by rw [List.append_nil]; rfl) h
  rw [Nat.zero_add] at r
  refine .inr ⟨_, by rw [e]; exact r, .inr (.inr ⟨hl, ⟨rfl, rfl⟩, rfl⟩)⟩
/-- the first word that fails -/
theorem law_bad {xs rest : List Str} {y : Str} {b : StA} (hl : xs.length < 200) (h : runL initA xs = some b) (hs : stepA b y = none) : LawAt (xs ++ y :: rest) ((xs.length : Nat) : Int) := by
  have ht : (xs ++ y :: rest).take 200 = xs ++ (y :: rest).take (200 - xs.length) := by
    rw [List.take_append, List.take_of_length_le (by omega)]
  have hp : 0 < 200 - xs.length := by omega
  obtain ⟨n, hn⟩ : ∃ n, 200 - xs.length = n + 1 := ⟨200 - xs.length - 1, by omega⟩
  rw [hn, List.take_succ_cons] at ht
  have hlen : xs.length < (xs ++ y :: rest.take n).length := by
    rw [List.length_append, List.length_cons]
    omega
  refine .inl ⟨xs.length, b, ?_, by rw [ht]; exact hlen, ?_, rfl⟩
  · rw [ht]
    have r := runL_run (ws := xs ++ y :: rest.take n) xs (y :: rest.take n) 0 initA b rfl h
    rw [Nat.zero_add] at r
    exact r
  · rw [ht]
    have : wd (xs ++ y :: rest.take n) xs.length = y := by
      unfold wd
      rw [List.getD_eq_getElem?_getD, List.getElem?_append_right (Nat.le_refl _), Nat.sub_self]
      rfl
    rw [this]
    exact hs
/-- the words end too early -/
theorem law_short {xs : List Str} {b : StA} (hl : xs.length ≤ 200) (h : runL initA xs = some b) (hs : ¬ accA b) : LawAt xs ((xs.length : Nat) : Int) := by
  have e : xs.take 200 = xs := List.take_of_length_le hl
  have r := runL_run (ws := xs) xs [] 0 initA _ (by rw [List.append_nil]; rfl) h
  rw [Nat.zero_add] at r
  exact .inr ⟨_, by rw [e]; exact r, .inr (.inl ⟨hl, hs, rfl⟩)⟩
/-- too many words -/
theorem law_long {xs rest : List Str} {b : StA} (hl : xs.length = 200) (h : runL initA xs = some b) (hr : rest ≠ []) : LawAt (xs ++ rest) 200 := by
  have e : (xs ++ rest).take 200 = xs := by rw [← hl, List.take_left]
  have r := runL_run (ws := xs) xs [] 0 initA _ (by rw [List.append_nil]; rfl) h
  rw [Nat.zero_add] at r
  have hp := List.length_pos_iff.mpr hr
  exact .inr ⟨_, by rw [e]; exact r, .inl ⟨by rw [List.length_append]; omega, rfl⟩⟩
end My
namespace My
open PySem PySem.Spec PyProof.Rows L2 He He5 Go NumT RatA TL TxtA DeqA
local macro_rules | `(tactic| walk_at "gv") => `(tactic| first
  | with_reducible refine g_v0 ?_ | with_reducible refine g_v1 ?_ | with_reducible refine g_v2 ?_ | with_reducible refine g_v3 ?_ | with_reducible refine g_v4 ?_ | with_reducible refine g_v5 ?_
  | with_reducible refine g_v6 ?_ | with_reducible refine g_v7 ?_ | with_reducible refine g_v8 ?_ | with_reducible refine g_v9 ?_ | with_reducible refine g_v10 ?_ | with_reducible refine g_v11 ?_ | with_reducible refine g_v12 ?_)
local macro_rules | `(tactic| walk_at "gn") => `(tactic| first
  | with_reducible refine g_n0 ?_ | with_reducible refine g_n1 ?_ | with_reducible refine g_n2 ?_ | with_reducible refine g_n3 ?_ | with_reducible refine g_n4 ?_ | with_reducible refine g_n5 ?_
  | with_reducible refine g_n6 ?_ | with_reducible refine g_n7 ?_ | with_reducible refine g_n8 ?_ | with_reducible refine g_n9 ?_ | with_reducible refine g_n10 ?_ | with_reducible refine g_n11 ?_ | with_reducible refine g_n12 ?_)
local macro_rules | `(tactic| walk_at "gs") => `(tactic| first
  | with_reducible refine g_asg ?_ | with_reducible refine g_ret ?_ | with_reducible refine g_if ?_ | with_reducible refine g_drop ?_ | with_reducible refine g_next ?_
  | with_reducible refine g_retN ?_ | with_reducible refine g_brk ?_ | with_reducible refine g_cont ?_ | with_reducible refine g_forA ?_ | with_reducible refine g_sfld ?_)
local macro_rules | `(tactic| walk_at "ge") => `(tactic| first
  | with_reducible refine g_c ?_ | with_reducible refine g_op ?_ | with_reducible refine g_test ?_ | with_reducible refine g_bl ?_ | with_reducible refine g_tB ?_ | with_reducible refine g_not ?_
  | with_reducible refine g_and ?_ | with_reducible refine g_or ?_ | with_reducible refine g_notV ?_ | with_reducible refine g_andV ?_ | with_reducible refine g_orV ?_ | with_reducible refine g_ifE ?_
  | with_reducible refine g_un ?_ | with_reducible refine g_chain ?_ | with_reducible refine g_nil ?_ | with_reducible refine g_cons ?_ | with_reducible refine g_tup ?_ | with_reducible refine g_lst ?_
  | with_reducible refine g_cb ?_ | with_reducible refine g_call ?_ | with_reducible refine g_cmeth ?_ | with_reducible refine g_make ?_ | with_reducible refine g_noPart ?_ | with_reducible refine g_part ?_
  | with_reducible refine g_partI ?_ | with_reducible refine g_sl ?_ | with_reducible refine g_m1 ?_ | with_reducible refine g_m0 ?_ | with_reducible refine g_isS ?_ | with_reducible refine g_gsub ?_
  | with_reducible refine g_gcons ?_ | with_reducible refine g_gnil ?_ | with_reducible refine g_bm ?_ | with_reducible refine g_bm0 ?_ | with_reducible refine g_mk ?_ | with_reducible refine g_lc ?_ | with_reducible refine g_fld ?_ | with_reducible refine g_yes ?_)
local macro_rules | `(tactic| walk_at "go_") => `(tactic| first
  | with_reducible refine g_addI ?_ | with_reducible refine g_subI ?_ | with_reducible refine g_ltI ?_ | with_reducible refine g_leI ?_ | with_reducible refine g_gtI ?_ | with_reducible refine g_geI ?_
  | with_reducible refine g_eqI ?_ | with_reducible refine g_eqS ?_ | with_reducible refine g_neI ?_ | with_reducible refine g_neS ?_
  | with_reducible refine g_isNn ?_ | with_reducible refine g_isNi ?_ | with_reducible refine g_isNs ?_ | with_reducible refine g_isNr ?_
  | with_reducible refine g_notNn ?_ | with_reducible refine g_notNi ?_ | with_reducible refine g_notNs ?_ | with_reducible refine g_notNr ?_ | with_reducible refine g_neg ?_
  | with_reducible refine g_inS ?_ | with_reducible refine g_niS ?_ | with_reducible refine g_iteT ?_ | with_reducible refine g_iteF ?_ | with_reducible refine g_iteNT ?_ | with_reducible refine g_iteNF ?_
  | with_reducible refine g_intI ?_ | with_reducible refine g_intB ?_ | with_reducible refine g_gcd ?_ | with_reducible refine g_max2 ?_ | with_reducible refine g_min2 ?_ | with_reducible refine g_stw ?_ | with_reducible refine g_abs ?_
  | with_reducible refine g_iStr ?_ | with_reducible refine g_exS ?_ | with_reducible refine g_iList ?_ | with_reducible refine g_iTup ?_ | with_reducible refine g_iR1 ?_ | with_reducible refine g_iR2 ?_ | with_reducible refine g_exR1 (by omega) (by omega) ?_ | with_reducible refine g_exR2 (by omega) ?_)
local macro_rules | `(tactic| walk_at "go1") => `(tactic| first | walk_at "gs" | with_reducible refine g_seq ?_ | walk_at "gv" | walk_at "ge" | walk_at "gn" | walk_at "go_")
local macro_rules | `(tactic| walk_at "go") => `(tactic| repeat walk_at "go1")
local macro_rules | `(tactic| walk_at "gl") => `(tactic| first
  | with_reducible refine g_lenS (by assumption) ?_ | with_reducible refine g_lenL (by assumption) ?_ | with_reducible refine g_lenT (by assumption) ?_ | with_reducible refine g_exL (by assumption) ?_ | with_reducible refine g_exT (by assumption) ?_)
local macro_rules | `(tactic| walk_at "gw") => `(tactic| repeat (first | walk_at "gs" | walk_at "gv" | walk_at "ge" | walk_at "gn" | walk_at "go_" | walk_at "gl"))
local macro_rules | `(tactic| walk_at "go2") => `(tactic| first | walk_at "go1" | walk_at "gl")
local macro_rules | `(tactic| walk_at "gg") => `(tactic| repeat walk_at "go2")

/-! ### chains of opening words and what closes them -/
inductive Opn : Nat → List Str → List Int → List Str → Prop
  | nil : Opn 0 [] [] []
  | par {n : Nat} {op : List Str} {S : List Int} {e : List Str} (h : Opn n op S e) : Opn (n + 1) (op ++ [("(" : Str)]) (S ++ [1]) ((")" : Str) :: e)
  | lg {n : Nat} {op : List Str} {S : List Int} {e : List Str} {a : Str} (h : Opn n op S e) (ha : a = ("least" : Str) ∨ a = ("greatest" : Str)) : Opn (n + 1) (op ++ [a, ("(" : Str)]) (S ++ [2]) (("," : Str) :: ("3" : Str) :: (")" : Str) :: e)
theorem Opn.len {n : Nat} {op : List Str} {S : List Int} {e : List Str} (h : Opn n op S e) : S.length = n ∧ op.length ≤ 2 * n ∧ e.length ≤ 3 * n := by
  induction h with
  | nil => exact ⟨rfl, Nat.le_refl _, Nat.le_refl _⟩
  | par h ih =>
    rw [List.length_append, List.length_append]
    refine ⟨?_, ?_, ?_⟩
    · show _ + 1 = _; omega
    · show _ + 1 ≤ _; omega
    · show _ + 1 ≤ _; omega
  | lg h ha ih =>
    rw [List.length_append, List.length_append]
    refine ⟨?_, ?_, ?_⟩
    · show _ + 1 = _; omega
    · show _ + 2 ≤ _; omega
    · show _ + 1 + 1 + 1 ≤ _; omega
theorem Opn.wok {n : Nat} {op : List Str} {S : List Int} {e : List Str} (h : Opn n op S e) : WsOk op ∧ WsOk e := by
  induction h with
  | nil => exact ⟨wsOk_nil, wsOk_nil⟩
  | par h ih => exact ⟨wsOk_app ih.1 (wsOk_one wok_by), wsOk_app (xs := [(")" : Str)]) (wsOk_one wok_by) ih.2⟩
  | lg h ha ih =>
    refine ⟨wsOk_app ih.1 (wsOk_two ?_ wok_by), wsOk_app (xs := [("," : Str), "3", ")"]) (wsOk_app (xs := [("," : Str), "3"]) (ys := [(")" : Str)]) (wsOk_two wok_by wok_by) (wsOk_one wok_by)) ih.2⟩
    rcases ha with rfl | rfl <;> exact wok_by
theorem Opn.run {n : Nat} {op : List Str} {S : List Int} {e : List Str} (h : Opn n op S e) (hn : n ≤ 12) (s : Int) : runL ⟨[], [("part" : Str)], s⟩ op = some ⟨S, [("part" : Str)], s⟩ := by
  induction h with
  | nil => rfl
  | par h ih =>
    rw [runL_app (ih (by omega))]
    exact run_one (st_par (by rw [h.len.1]; omega))
  | lg h ha ih =>
    rw [runL_app (ih (by omega))]
    exact run_lg ha (by rw [h.len.1]; omega)
theorem three_rat : isR ("3" : Str) = true := by decide +kernel
theorem Opn.close {n : Nat} {op : List Str} {S : List Int} {e : List Str} (h : Opn n op S e) (s : Int) : runL ⟨S, [("after" : Str)], s⟩ e = some ⟨[], [("after" : Str)], s⟩ := by
  induction h with
  | nil => rfl
  | par h ih => rw [runL_cons st_close]; exact ih
  | lg h ha ih => rw [runL_cons st_comma, runL_cons (st_rat (by decide +kernel) three_rat), runL_cons st_close]; exact ih
theorem Opn.nop {n : Nat} {op : List Str} {S : List Int} {e : List Str} (h : Opn n op S e) : ("(" : Str) ∉ e := by
  induction h with
  | nil => exact fun h => nomatch h
  | par h ih =>
    intro hm
    rcases List.mem_cons.mp hm with q | q
    · revert q; decide +kernel
    · exact ih q
  | lg h ha ih =>
    intro hm
    rcases List.mem_cons.mp hm with q | q
    · revert q; decide +kernel
    · rcases List.mem_cons.mp q with q | q
      · revert q; decide +kernel
      · rcases List.mem_cons.mp q with q | q
        · revert q; decide +kernel
        · exact ih q
structure ChainOk (n : Nat) (ws : List Str) : Prop where
  ex : ∃ op S e pt, Opn n op S e ∧ PartOk pt ∧ ws = op ++ pt ++ e
section
variable {P : Program} {w : World} {K : PySem.W.Frag} {mg : Str → Option Value} {base : Heap}
def spChain : Sp := fun vs H Q _ => ∃ (p l : Addr) (n : Nat), vs = [.ref p, .int (n : Int)] ∧ PotAt H p l ∧ n ≤ 13 ∧ ∀ lw ws H', ChainOk n ws → Pt p l H H' → H lw = none → H' lw = some (.lst (ws.map V.str)) → Q (.ref lw) H'
theorem Pt.keep {p l q : Addr} {H H1 H2 : Hp} {u : HO} (a : Pt p l H1 H2) (h : H1 q = some u) (h0 : H q = none) (hp : PotAt H p l) : H2 q = some u := a.at h fun e => (hp.ne h0).1 e.symm
theorem ok__law_chain (T : Tx fxL fnL K mg) : FnR P w K mg base (L2.CX P w) 4 (ga K "_law_chain") spChain := by
  refine fun_ok (F__law_chain T) sc__law_chain (fun _ _ _ _ _ _ us hl => match us, hl with | [_, _], _ => rfl) ?_ ?_
  · rintro vs H Q E ⟨p, l, n, rfl, _⟩
    rfl
  · rintro cdv A outer s H vs Q E hr ⟨p, l, n, rfl, hp, hn, q⟩
    refine ⟨_, (pss_cons (ps_set (i := 2) sc__law_chain.nd rfl (Or.inl rfl) (pe_lst pa_nil))
 (pss_cons (ps_set (i := 3) sc__law_chain.nd rfl (Or.inl rfl) (pe_lst pa_nil))
 (pss_cons (ps_for (passes_of rfl) rfl (pi_range1 (by rfl) (z_range T) (pa_cons (pv 1) pa_nil)) (pg_name (i := 4) sc__law_chain.nd rfl (Or.inl rfl)) (pss_cons (ps_set (i := 5) sc__law_chain.nd rfl (Or.inl rfl) (pe_op o_mod (pe_callTy (c_int (nd_int T)) (by rfl) (z_int T) (by decide +kernel) (pa_cons (pe_op o_add (pe_callF ((ok__law_digit T).mono (by decide)) hr (takes_of rfl rfl rfl rfl) (by rfl) (gm__law_digit T) (k__law_digit T) (pa_cons (pv 0) (pa_cons pe_int pa_nil))) (pv 4)) pa_nil)) pe_int))
 (pss_one (ps_if (pt_cmpR (o_eq hr.units) (pv 5) pe_int (nomark _)) (pss_cons (ps_set (i := 2) sc__law_chain.nd rfl (Or.inl rfl) (pe_op o_add (pv 2) (pe_lst (pa_cons pe_str pa_nil))))
 (pss_one (ps_set (i := 3) sc__law_chain.nd rfl (Or.inl rfl) (pe_op o_add (pe_lst (pa_cons pe_str pa_nil)) (pv 3))))) (pss_cons (ps_set (i := 2) sc__law_chain.nd rfl (Or.inl rfl) (pe_op o_add (pv 2) (pe_lst (pa_cons (pe_ix ix_seq (pe_lst (pa_cons pe_str (pa_cons pe_str pa_nil))) (pe_op o_sub (pv 5) pe_int) (fun _ _ => rfl)) (pa_cons pe_str pa_nil)))))
 (pss_one (ps_set (i := 3) sc__law_chain.nd rfl (Or.inl rfl) (pe_op o_add (pe_lst (pa_cons pe_str (pa_cons pe_str (pa_cons pe_str pa_nil)))) (pv 3)))))))))
 (pss_one (ps_ret (pe_op o_add (pe_op o_add (pv 2) (pe_callF ((ok__law_part T).mono (by decide)) hr (takes_of rfl rfl rfl rfl) (by rfl) (gm__law_part T) (k__law_part T) (pa_cons (pv 0) (pa_cons pe_int pa_nil)))) (pv 3))))))), ?_⟩
    refine g_start (σ := [some (.ref p), some (.int (n : Int)), none, none, none, none]) rfl ?_
    walk_at "gg"
    refine ⟨nil_le, fun l0 hl0 => ?_⟩
    have pt0 := (Pt.refl hp).new (o := .lst []) hl0
    walk_at "gg"
    refine ⟨nil_le, fun l1 hl1 => ?_⟩
    have pt1 := pt0.new (o := .lst []) hl1
    have k0 : (upd (upd H l0 (.lst [])) l1 (.lst [])) l0 = some (.lst []) := keep upd_same hl1
    walk_at "gg"
    rw [Int.toNat_natCast]
    refine l_range (fun i σ' H' => ∃ (lw le : Addr) (ws : List Str) (S : List Int) (e : List Str) (o1 o2 : Option V), σ' = [some (.ref p), some (.int (n : Int)), some (.ref lw), some (.ref le), o1, o2] ∧ Opn i ws S e ∧ Pt p l H H' ∧ H lw = none ∧ H le = none ∧ H' lw = some (.lst (ws.map V.str)) ∧ H' le = some (.lst (e.map V.str)))
      ⟨l0, l1, [], [], [], _, _, rfl, .nil, pt1, hl0, pt0.free hl1, k0, upd_same⟩ ?_ ?_
    · rintro i σ' H2 hi ⟨lw, le, ws, S, e, o1, o2, rfl, op, pt, hlw, hle, hw, he⟩
      obtain ⟨_, len1, len2⟩ := op.len
      walk_at "gg"
      refine ⟨p, l, 3, rfl, pt.pot, by decide, by decide, fun r1 H3 h3 pt3 => ?_⟩
      have hw3 := pt3.keep hw hlw hp
      have he3 := pt3.keep he hle hp
      have ptb := pt.trans pt3
      walk_at "gg"
      refine g_modI (by decide) ?_
      obtain ⟨kd, hkd, hkd2⟩ : ∃ kd : Nat, ((r1 : Int) + (0 + (i : Int))) % 3 = (kd : Int) ∧ kd < 3 := ⟨(((r1 : Int) + (0 + (i : Int))) % 3).toNat, by omega, by omega⟩
      rw [hkd]
      walk_at "gg"
      refine g_ite (fun c => ?_) (fun c => ?_)
      · walk_at "gg"
        refine ⟨one_le, fun m1 hm1 => ?_⟩
        have pt4 := ptb.new (o := .lst (([("(" : Str)]).map V.str)) hm1
        have hw4 := keep (o := .lst (([("(" : Str)]).map V.str)) hw3 hm1
        have he4 := keep (o := .lst (([("(" : Str)]).map V.str)) he3 hm1
        walk_at "gg"
        refine g_addL hw4 upd_same (szS (ys := [("(" : Str)]) (by show _ + 1 ≤ _; omega)) fun m2 hm2 => ?_
        have pt5 := pt4.new (o := .lst (ws.map V.str ++ ([("(" : Str)]).map V.str)) hm2
        have he5 := keep (o := .lst (ws.map V.str ++ ([("(" : Str)]).map V.str)) he4 hm2
        walk_at "gg"
        refine ⟨one_le, fun m3 hm3 => ?_⟩
        have pt6 := pt5.new (o := .lst (([(")" : Str)]).map V.str)) hm3
        have he6 := keep (o := .lst (([(")" : Str)]).map V.str)) he5 hm3
        have hw6 := keep (o := .lst (([(")" : Str)]).map V.str)) (upd_same (H := upd H3 m1 (.lst (([("(" : Str)]).map V.str))) (a := m2) (o := .lst (ws.map V.str ++ ([("(" : Str)]).map V.str))) hm3
        walk_at "gg"
        refine g_addL upd_same he6 (szS (xs := [(")" : Str)]) (by show 1 + _ ≤ _; omega)) fun m4 hm4 => ?_
        walk_at "gg"
        exact ⟨m2, m4, _, _, _, _, _, rfl, op.par, pt6.new hm4, pt4.free hm2, pt6.free hm4, by rw [upd_ne (ne_of_none hw6 hm4), List.map_append]; exact hw6, by rw [upd_same]; rfl⟩
      · obtain ⟨a, ha, hat⟩ : ∃ a : Str, (a = ("least" : Str) ∨ a = ("greatest" : Str)) ∧ atI [V.str "least", V.str "greatest"] ((kd : Int) - 1) = some (.str a) := by
          rcases (show kd = 1 ∨ kd = 2 by omega) with rfl | rfl
          · exact ⟨_, .inl rfl, rfl⟩
          · exact ⟨_, .inr rfl, rfl⟩
        walk_at "gg"
        refine ⟨two_le, fun m0 hm0 => ?_⟩
        have pt30 := ptb.new (o := .lst [V.str "least", V.str "greatest"]) hm0
        have hw30 := keep (o := .lst [V.str "least", V.str "greatest"]) hw3 hm0
        have he30 := keep (o := .lst [V.str "least", V.str "greatest"]) he3 hm0
        walk_at "gg"
        refine g_ixL (.inl (.inl upd_same)) hat ?_
        walk_at "gg"
        refine ⟨two_le, fun m1 hm1 => ?_⟩
        have pt4 := pt30.new (o := .lst (([a, ("(" : Str)]).map V.str)) hm1
        have hw4 := keep (o := .lst (([a, ("(" : Str)]).map V.str)) hw30 hm1
        have he4 := keep (o := .lst (([a, ("(" : Str)]).map V.str)) he30 hm1
        walk_at "gg"
        refine g_addL hw4 upd_same (szS (ys := [a, ("(" : Str)]) (by show _ + 2 ≤ _; omega)) fun m2 hm2 => ?_
        have pt5 := pt4.new (o := .lst (ws.map V.str ++ ([a, ("(" : Str)]).map V.str)) hm2
        have he5 := keep (o := .lst (ws.map V.str ++ ([a, ("(" : Str)]).map V.str)) he4 hm2
        walk_at "gg"
        refine ⟨le_size (by show 3 ≤ 64; decide), fun m3 hm3 => ?_⟩
        have pt6 := pt5.new (o := .lst (([("," : Str), "3", ")"]).map V.str)) hm3
        have he6 := keep (o := .lst (([("," : Str), "3", ")"]).map V.str)) he5 hm3
        have hw6 := keep (o := .lst (([("," : Str), "3", ")"]).map V.str)) (upd_same (H := upd (upd H3 m0 (.lst [V.str "least", V.str "greatest"])) m1 (.lst (([a, ("(" : Str)]).map V.str))) (a := m2) (o := .lst (ws.map V.str ++ ([a, ("(" : Str)]).map V.str))) hm3
        walk_at "gg"
        refine g_addL upd_same he6 (szS (xs := [("," : Str), "3", ")"]) (by show 3 + _ ≤ _; omega)) fun m4 hm4 => ?_
        walk_at "gg"
        exact ⟨m2, m4, _, _, _, _, _, rfl, op.lg ha, pt6.new hm4, pt4.free hm2, pt6.free hm4, by rw [upd_ne (ne_of_none hw6 hm4), List.map_append]; exact hw6, by rw [upd_same]; rfl⟩
    · rintro σ' H2 ⟨lw, le, ws, S, e, o1, o2, rfl, op, pt, hlw, hle, hw, he⟩
      obtain ⟨_, len1, len2⟩ := op.len
      walk_at "gg"
      refine ⟨p, l, 4, rfl, pt.pot, by decide, fun lp wp H3 po pt3 hfp hwp => ?_⟩
      have hw3 := pt3.keep hw hlw hp
      have he3 := pt3.keep he hle hp
      have ptb := pt.trans pt3
      have hp10 := po.len
      walk_at "gg"
      refine g_addL hw3 hwp (szS (by omega)) fun m1 hm1 => ?_
      rw [mapS]
      have pt4 := ptb.new (o := .lst ((ws ++ wp).map V.str)) hm1
      have he4 := keep (o := .lst ((ws ++ wp).map V.str)) he3 hm1
      walk_at "gg"
      refine g_addL upd_same he4 (szS (by rw [List.length_append]; omega)) fun m2 hm2 => ?_
      rw [mapS]
      exact q m2 _ _ ⟨ws, S, e, wp, op, po, rfl⟩ (pt4.new hm2) (pt4.free hm2) upd_same
end
end My
namespace My
open PySem PySem.Spec PyProof.Rows L2 He He5 Go NumT RatA TL TxtA DeqA
local macro_rules | `(tactic| walk_at "gv") => `(tactic| first
  | with_reducible refine g_v0 ?_ | with_reducible refine g_v1 ?_ | with_reducible refine g_v2 ?_ | with_reducible refine g_v3 ?_ | with_reducible refine g_v4 ?_ | with_reducible refine g_v5 ?_
  | with_reducible refine g_v6 ?_ | with_reducible refine g_v7 ?_ | with_reducible refine g_v8 ?_ | with_reducible refine g_v9 ?_ | with_reducible refine g_v10 ?_ | with_reducible refine g_v11 ?_ | with_reducible refine g_v12 ?_)
local macro_rules | `(tactic| walk_at "gn") => `(tactic| first
  | with_reducible refine g_n0 ?_ | with_reducible refine g_n1 ?_ | with_reducible refine g_n2 ?_ | with_reducible refine g_n3 ?_ | with_reducible refine g_n4 ?_ | with_reducible refine g_n5 ?_
  | with_reducible refine g_n6 ?_ | with_reducible refine g_n7 ?_ | with_reducible refine g_n8 ?_ | with_reducible refine g_n9 ?_ | with_reducible refine g_n10 ?_ | with_reducible refine g_n11 ?_ | with_reducible refine g_n12 ?_)
local macro_rules | `(tactic| walk_at "gs") => `(tactic| first
  | with_reducible refine g_asg ?_ | with_reducible refine g_ret ?_ | with_reducible refine g_if ?_ | with_reducible refine g_drop ?_ | with_reducible refine g_next ?_
  | with_reducible refine g_retN ?_ | with_reducible refine g_brk ?_ | with_reducible refine g_cont ?_ | with_reducible refine g_forA ?_ | with_reducible refine g_sfld ?_)
local macro_rules | `(tactic| walk_at "ge") => `(tactic| first
  | with_reducible refine g_c ?_ | with_reducible refine g_op ?_ | with_reducible refine g_test ?_ | with_reducible refine g_bl ?_ | with_reducible refine g_tB ?_ | with_reducible refine g_not ?_
  | with_reducible refine g_and ?_ | with_reducible refine g_or ?_ | with_reducible refine g_notV ?_ | with_reducible refine g_andV ?_ | with_reducible refine g_orV ?_ | with_reducible refine g_ifE ?_
  | with_reducible refine g_un ?_ | with_reducible refine g_chain ?_ | with_reducible refine g_nil ?_ | with_reducible refine g_cons ?_ | with_reducible refine g_tup ?_ | with_reducible refine g_lst ?_
  | with_reducible refine g_cb ?_ | with_reducible refine g_call ?_ | with_reducible refine g_cmeth ?_ | with_reducible refine g_make ?_ | with_reducible refine g_noPart ?_ | with_reducible refine g_part ?_
  | with_reducible refine g_partI ?_ | with_reducible refine g_sl ?_ | with_reducible refine g_m1 ?_ | with_reducible refine g_m0 ?_ | with_reducible refine g_isS ?_ | with_reducible refine g_gsub ?_
  | with_reducible refine g_gcons ?_ | with_reducible refine g_gnil ?_ | with_reducible refine g_bm ?_ | with_reducible refine g_bm0 ?_ | with_reducible refine g_mk ?_ | with_reducible refine g_lc ?_ | with_reducible refine g_fld ?_ | with_reducible refine g_yes ?_)
local macro_rules | `(tactic| walk_at "go_") => `(tactic| first
  | with_reducible refine g_addI ?_ | with_reducible refine g_subI ?_ | with_reducible refine g_ltI ?_ | with_reducible refine g_leI ?_ | with_reducible refine g_gtI ?_ | with_reducible refine g_geI ?_
  | with_reducible refine g_eqI ?_ | with_reducible refine g_eqS ?_ | with_reducible refine g_neI ?_ | with_reducible refine g_neS ?_
  | with_reducible refine g_isNn ?_ | with_reducible refine g_isNi ?_ | with_reducible refine g_isNs ?_ | with_reducible refine g_isNr ?_
  | with_reducible refine g_notNn ?_ | with_reducible refine g_notNi ?_ | with_reducible refine g_notNs ?_ | with_reducible refine g_notNr ?_ | with_reducible refine g_neg ?_
  | with_reducible refine g_inS ?_ | with_reducible refine g_niS ?_ | with_reducible refine g_iteT ?_ | with_reducible refine g_iteF ?_ | with_reducible refine g_iteNT ?_ | with_reducible refine g_iteNF ?_
  | with_reducible refine g_intI ?_ | with_reducible refine g_intB ?_ | with_reducible refine g_gcd ?_ | with_reducible refine g_max2 ?_ | with_reducible refine g_min2 ?_ | with_reducible refine g_stw ?_ | with_reducible refine g_abs ?_
  | with_reducible refine g_iStr ?_ | with_reducible refine g_exS ?_ | with_reducible refine g_iList ?_ | with_reducible refine g_iTup ?_ | with_reducible refine g_iR1 ?_ | with_reducible refine g_iR2 ?_ | with_reducible refine g_exR1 (by omega) (by omega) ?_ | with_reducible refine g_exR2 (by omega) ?_)
local macro_rules | `(tactic| walk_at "go1") => `(tactic| first | walk_at "gs" | with_reducible refine g_seq ?_ | walk_at "gv" | walk_at "ge" | walk_at "gn" | walk_at "go_")
local macro_rules | `(tactic| walk_at "go") => `(tactic| repeat walk_at "go1")
local macro_rules | `(tactic| walk_at "gl") => `(tactic| first
  | with_reducible refine g_lenS (by assumption) ?_ | with_reducible refine g_lenL (by assumption) ?_ | with_reducible refine g_lenT (by assumption) ?_ | with_reducible refine g_exL (by assumption) ?_ | with_reducible refine g_exT (by assumption) ?_)
local macro_rules | `(tactic| walk_at "gw") => `(tactic| repeat (first | walk_at "gs" | walk_at "gv" | walk_at "ge" | walk_at "gn" | walk_at "go_" | walk_at "gl"))
local macro_rules | `(tactic| walk_at "go2") => `(tactic| first | walk_at "go1" | walk_at "gl")
local macro_rules | `(tactic| walk_at "gg") => `(tactic| repeat walk_at "go2")

/-! ### where a chain goes too deep -/
/-- the places of the opening parentheses among the first i words -/
def opL (ws : List Str) (i : Nat) : List Nat := (List.range i).filter fun k => decide (wd ws k = ("(" : Str))
theorem opL_succ (ws : List Str) (i : Nat) : opL ws (i + 1) = if wd ws i = ("(" : Str) then opL ws i ++ [i] else opL ws i := by
  unfold opL
  rw [List.range_succ, List.filter_append]
  by_cases h : wd ws i = ("(" : Str)
  · rw [if_pos h, List.filter_cons_of_pos (by simp [h])]
    rfl
  · rw [if_neg h, List.filter_cons_of_neg (by simp [h])]
    simp
theorem opL_len {xs rest : List Str} : ∀ i, i ≤ xs.length → (opL (xs ++ rest) i).length = (xs.take i).countP fun y => decide (y = ("(" : Str))
  | 0, _ => by rw [List.take_zero]; rfl
  | i + 1, h => by
    have hi : i < xs.length := by omega
    have e : wd (xs ++ rest) i = xs[i] := by
      unfold wd
      rw [List.getD_eq_getElem?_getD, List.getElem?_append_left hi, List.getElem?_eq_getElem hi]
      rfl
    rw [opL_succ, e, List.take_succ_eq_append_getElem hi, List.countP_append, ← opL_len (rest := rest) i (by omega)]
    by_cases c : xs[i] = ("(" : Str)
    · rw [if_pos c, List.length_append, List.countP_cons_of_pos (by simp [c])]
      rfl
    · rw [if_neg c, List.countP_cons_of_neg (by simp [c])]
      rfl
theorem opL_at {xs rest : List Str} {m n : Nat} (h : xs.countP (fun y => decide (y = ("(" : Str))) = m) : ∀ r, n = xs.length + 1 + r → (opL (xs ++ ("(" : Str) :: rest) n)[m]? = some xs.length := by
  intro r
  induction r generalizing n with
  | zero =>
    intro e
    subst e
    have e2 : wd (xs ++ ("(" : Str) :: rest) xs.length = ("(" : Str) := by
      unfold wd
      rw [List.getD_eq_getElem?_getD, List.getElem?_append_right (Nat.le_refl _), Nat.sub_self]
      rfl
    have l := opL_len (xs := xs) (rest := ("(" : Str) :: rest) xs.length (Nat.le_refl _)
    rw [List.take_length, h] at l
    rw [Nat.add_zero, opL_succ, if_pos e2, List.getElem?_append_right (by omega), l, Nat.sub_self]
    rfl
  | succ r ih =>
    intro e
    subst e
    have z := ih (n := xs.length + 1 + r) rfl
    rw [show xs.length + 1 + (r + 1) = xs.length + 1 + r + 1 by omega, opL_succ]
    split
    · rw [List.getElem?_append_left (List.getElem?_eq_some_iff.mp z).1]
      exact z
    · exact z
theorem Opn.cnt {n : Nat} {op : List Str} {S : List Int} {e : List Str} (h : Opn n op S e) : op.countP (fun y => decide (y = ("(" : Str))) = n := by
  induction h with
  | nil => rfl
  | par h ih =>
    rw [List.countP_append, ih]
    rfl
  | lg h ha ih =>
    rw [List.countP_append, ih]
    rcases ha with rfl | rfl <;> rfl
/-- a chain of thirteen, cut where it goes too deep -/
structure DeepAt (ws xs rest : List Str) (b : StA) : Prop where
  eq : ws = xs ++ ("(" : Str) :: rest
  cnt : xs.countP (fun y => decide (y = ("(" : Str))) = 12
  len : xs.length ≤ 30
  run : runL initA xs = some b
  no1 : stepA b ("(" : Str) = none
  no2 : stepA b (")" : Str) = none
  acc : ¬ accA b
theorem part_no {S : List Int} {s : Int} {x : Str} (hx : okR (tl x) = false) (hb : behind x = []) (h : ¬ (x = ("(" : Str) ∧ S.length < 12)) : stepA ⟨S, [("part" : Str)], s⟩ x = none := by
  rw [st_part, if_neg h, if_neg (by rw [hx]; simp), if_neg (by rw [hb]; simp)]
theorem open_no {S : List Int} {s : Int} {r : List Str} {x : Str} (h : ¬ (x = ("(" : Str) ∧ S.length ≠ 12)) : stepA ⟨S, ("open" : Str) :: r, s⟩ x = none := by
  rw [st_open, if_neg h]
theorem deep_at {ws : List Str} (h : ChainOk 13 ws) : ∃ xs rest b, DeepAt ws xs rest b := by
  obtain ⟨op, S, e, pt, o, po, rfl⟩ := h.ex
  cases o with
  | @par _ op S e o =>
    refine ⟨op, pt ++ _, _, by rw [List.append_assoc, List.append_assoc]; rfl, o.cnt, by have := o.len.2.1; omega, o.run (Nat.le_refl _) 1, part_no (by decide +kernel) (by decide +kernel) ?_, part_no (by decide +kernel) (by decide +kernel) ?_, due_acc (by decide +kernel)⟩
    · rw [o.len.1]
      omega
    · rw [o.len.1]
      omega
  | @lg _ op S e a o ha =>
    have hb : behind a = (["open"] : List Str) := by rcases ha with rfl | rfl <;> decide +kernel
    have hr : okR (tl a) = false := by rcases ha with rfl | rfl <;> decide +kernel
    have hp : a ≠ ("(" : Str) := by rcases ha with rfl | rfl <;> decide +kernel
    refine ⟨op ++ [a], pt ++ _, ⟨S, ["open", "after"], 1⟩, by rw [List.append_assoc, List.append_assoc, List.append_assoc]; rfl, ?_, ?_, ?_, open_no ?_, open_no ?_, due_acc (by decide +kernel)⟩
    · rw [List.countP_append, o.cnt, List.countP_cons_of_neg (by simp [hp])]
      rfl
    · rw [List.length_append]
      have := o.len.2.1
      show _ + 1 ≤ _
      omega
    · show runL ⟨[], [("part" : Str)], 1⟩ (op ++ [a]) = _
      rw [runL_app (o.run (Nat.le_refl _) 1), runL_cons (b := ⟨S, ["open", "after"], 1⟩)]
      · rfl
      · rw [st_part, if_neg (fun h => hp h.1), if_neg (by rw [hr]; simp), if_pos (by rw [hb]; simp), hb]
        rfl
    · rw [o.len.1]
      omega
    · rw [o.len.1]
      omega
theorem ChainOk.run {n : Nat} {ws : List Str} (h : ChainOk n ws) (hn : n ≤ 12) (s : Int) : runL ⟨[], [("part" : Str)], s⟩ ws = some ⟨[], [("after" : Str)], s⟩ := by
  obtain ⟨op, S, e, pt, o, po, rfl⟩ := h.ex
  rw [List.append_assoc, runL_app (o.run hn s), runL_app (po.run S s)]
  exact o.close s
theorem ChainOk.wok {n : Nat} {ws : List Str} (h : ChainOk n ws) : WsOk ws := by
  obtain ⟨op, S, e, pt, o, po, rfl⟩ := h.ex
  exact wsOk_app (wsOk_app o.wok.1 po.ok) o.wok.2
theorem ChainOk.len {n : Nat} {ws : List Str} (h : ChainOk n ws) (hn : n ≤ 13) : ws.length ≤ 80 := by
  obtain ⟨op, S, e, pt, o, po, rfl⟩ := h.ex
  have := o.len
  have := po.len
  rw [List.length_append, List.length_append]
  omega
theorem ChainOk.ne {n : Nat} {ws : List Str} (h : ChainOk n ws) : ws ≠ [] := by
  obtain ⟨op, S, e, pt, o, po, rfl⟩ := h.ex
  intro q
  exact po.pos (List.append_eq_nil_iff.mp (List.append_eq_nil_iff.mp q).1).2
/-- a text of words is let -/
theorem let_ok {ws : List Str} (ha : WsAl ws) (hne : ws ≠ []) (h : LawAt ws (-1)) : LawAt (Txt.split (txt ws) " ") (-1) := by
  rw [txt_split ha, if_neg hne]
  exact h
theorem ref_ok {ws : List Str} {i : Int} (ha : WsAl ws) (hne : ws ≠ []) (h : LawAt ws i) : LawAt (Txt.split (txt ws) " ") i := by
  rw [txt_split ha, if_neg hne]
  exact h
theorem WsAl.sz {ws : List Str} (ha : WsAl ws) (hl : ws.length ≤ 210) : (txt ws).length + 2 ≤ sizeLine := by
  have := txt_len (n := 64) fun y hy => (ha y hy).len
  rw [sizeLine_eq]
  omega
theorem WsAl.js {ws : List Str} (ha : WsAl ws) (hl : ws.length ≤ 210) : (ws.map (fun x => x.length)).sum + ws.length * (" " : Str).length ≤ 16777216 := by
  have := sum_le ws 64 fun y hy => (ha y hy).len
  rw [show (" " : Str).length = 1 from rfl]
  omega
section
variable {P : Program} {w : World} {K : PySem.W.Frag} {mg : Str → Option Value} {base : Heap}
def spPotB : Sp := fun vs H Q _ => ∃ (p l : Addr), vs = [.ref p] ∧ PotAt H p l ∧ ∀ H', Pt p l H H' → Q (.bl true) H'
theorem ok__law_deep (T : Tx fxL fnL K mg) : FnR P w K mg base (L2.CX P w) 66 (ga K "_law_deep") spPotB := by
  refine fun_ok (F__law_deep T) sc__law_deep (fun _ _ _ _ _ _ us hl => match us, hl with | [_], _ => rfl) ?_ ?_
  · rintro vs H Q E ⟨p, l, rfl, _⟩
    rfl
  · rintro cdv A outer s H vs Q E hr ⟨p, l, rfl, hp, q⟩
    refine ⟨_, (pss_cons (ps_set (i := 1) sc__law_deep.nd rfl (Or.inl rfl) (pe_callF ((ok__law_chain T).mono (by decide)) hr (takes_of rfl rfl rfl rfl) (by rfl) (gm__law_chain T) (k__law_chain T) (pa_cons (pv 0) (pa_cons pe_int pa_nil))))
 (pss_cons (ps_set (i := 2) sc__law_deep.nd rfl (Or.inr rfl) (pe_callF ((ok__law_chain T).mono (by decide)) hr (takes_of rfl rfl rfl rfl) (by rfl) (gm__law_chain T) (k__law_chain T) (pa_cons (pv 0) (pa_cons pe_int pa_nil))))
 (pss_cons (ps_setLc (i := 3) (own := [("k", 5)]) (by rfl) sc__law_deep.nd rfl rfl (sw_true rfl rfl rfl (by decide +kernel)) (pi_range1 (by rfl) (z_range T) (pa_cons (pe_callB b_len (by rfl) (z_len T) (by decide +kernel) (pa_cons (pv 2) pa_nil)) pa_nil)) (blkOk_by (N := ["pot", "deep", "more", "opens", "at", "k"]) (sc := defScope s__law_deep) (by decide +kernel)) (fun _ _ _ _ _ => (pg_name (i := 5) sc__law_deep.nd rfl (Or.inl rfl))) (fun _ _ _ _ _ => (pts_one (pt_cmpR (o_eqK K hr.units) (pe_ix (ix_seqK K) (pv 2) (pv 5) (fun _ _ => rfl)) pe_str (nomark _)))) (fun _ _ _ _ _ => (pv 5)))
 (pss_cons (ps_if (PW.pt (pw_or (pt_not (pt_val (pe_callF ((ok__law_let T).mono (by decide)) hr (takes_of rfl rfl rfl rfl) (by rfl) (gm__law_let T) (k__law_let T) (pa_cons (pe_m1 PySem.F.slot_str_join PySem.F.type_str_join m_join pe_str (pv 1)) pa_nil)))) (pw_or1 (pt_not (pt_val (pe_callF ((ok__law_let T).mono (by decide)) hr (takes_of rfl rfl rfl rfl) (by rfl) (gm__law_let T) (k__law_let T) (pa_cons (pe_m1 PySem.F.slot_str_join PySem.F.type_str_join m_join pe_str (pe_op o_add (pe_op o_add (pv 1) (pe_lst (pa_cons pe_str pa_nil))) (pv 1))) pa_nil))))))) (pss_one (ps_ret pe_bl)) pss_nil)
 (pss_cons (ps_set (i := 4) sc__law_deep.nd rfl (Or.inl rfl) (pe_ix ix_seq (pv 3) pe_int (fun _ _ => rfl)))
 (pss_cons (ps_if (pt_not (pt_val (pe_callF ((ok__law_refused T).mono (by decide)) hr (takes_of rfl rfl rfl rfl) (by rfl) (gm__law_refused T) (k__law_refused T) (pa_cons (pe_m1 PySem.F.slot_str_join PySem.F.type_str_join m_join pe_str (pv 2)) (pa_cons (pv 4) pa_nil))))) (pss_one (ps_ret pe_bl)) pss_nil)
 (pss_cons (ps_if (pt_not (pt_val (pe_callF ((ok__law_refused T).mono (by decide)) hr (takes_of rfl rfl rfl rfl) (by rfl) (gm__law_refused T) (k__law_refused T) (pa_cons (pe_m1 PySem.F.slot_str_join PySem.F.type_str_join m_join pe_str (pe_op o_add (pe_lst (pa_cons pe_str (pa_cons pe_str pa_nil))) (pv 2))) (pa_cons (pe_op o_add (pv 4) pe_int) pa_nil))))) (pss_one (ps_ret pe_bl)) pss_nil)
 (pss_cons (ps_if (pt_not (pt_val (pe_callF ((ok__law_refused T).mono (by decide)) hr (takes_of rfl rfl rfl rfl) (by rfl) (gm__law_refused T) (k__law_refused T) (pa_cons (pe_m1 PySem.F.slot_str_join PySem.F.type_str_join m_join pe_str (pe_slice o_sl (pv 2) po_none (po_some (pv 4)))) (pa_cons (pv 4) pa_nil))))) (pss_one (ps_ret pe_bl)) pss_nil)
 (pss_one (ps_ret (pe_callF ((ok__law_refused T).mono (by decide)) hr (takes_of rfl rfl rfl rfl) (by rfl) (gm__law_refused T) (k__law_refused T) (pa_cons (pe_m1 PySem.F.slot_str_join PySem.F.type_str_join m_join pe_str (pe_op o_add (pe_op o_add (pe_slice o_sl (pv 2) po_none (po_some (pv 4))) (pe_lst (pa_cons pe_str pa_nil))) (pe_slice o_sl (pv 2) (po_some (pe_op o_add (pv 4) pe_int)) po_none))) (pa_cons (pv 4) pa_nil))))))))))))), ?_⟩
    refine g_start (σ := [some (.ref p), none, none, none, none, none]) rfl ?_
    walk_at "gg"
    refine ⟨p, l, 12, rfl, hp, by decide, fun ld wd1 H1 c1 pt1 hld h1 => ?_⟩
    walk_at "gg"
    refine ⟨p, l, 13, rfl, pt1.pot, by decide, fun lm wm H2 c2 pt2 hlm h2 => ?_⟩
    have hdp : ld ≠ p := fun e => (hp.ne hld).1 e.symm
    have h12 := pt2.at h1 hdp
    have ptb := pt1.trans pt2
    have ld80 := c1.len (by decide)
    have lm80 := c2.len (by decide)
    have hmm : (wm.map V.str).length = wm.length := List.length_map _
    walk_at "gg"
    refine g_lenL (.inl (.inl h2)) ?_
    rw [hmm]
    walk_at "gg"
    intro D hD
    rw [Int.toNat_natCast]
    refine c_range (fun i H' => Same H2 H' ∧ H' D = some (.lst ((opL wm i).map fun k : Nat => V.int (k : Int)))) ⟨same_new hD _, upd_same⟩ ?_ ?_
    · rintro i H' hi ⟨sm, hl⟩
      refine g_cell (σ := [some (.ref p), some (.ref ld), some (.ref lm), none, none, none]) rfl ?_
      walk_at "gg"
      refine ⟨rfl, ?_⟩
      walk_at "gg"
      rw [Int.zero_add]
      refine g_ixL (.inl (.inl (sm _ _ h2))) (wd_at hi) ?_
      walk_at "gg"
      refine g_ite (fun c => ?_) (fun c => ?_)
      · walk_at "gg"
        refine ⟨_, hl, ?_, same_put sm hD, ?_⟩
        · have := List.length_filter_le (fun k => decide (wd wm k = ("(" : Str))) (List.range i)
          rw [List.length_range] at this
          rw [List.length_map, sizeLine_eq]
          unfold opL
          omega
        · rw [upd_same, opL_succ, if_pos c, List.map_append]
          rfl
      · walk_at "gg"
        refine ⟨sm, ?_⟩
        rw [opL_succ, if_neg c]
        exact hl
    · rintro H3 ⟨s3, hl3⟩
      have ptc := ptb.same s3
      have h13 := s3 _ _ h12
      have h23 := s3 _ _ h2
      have wdk := c1.wok
      have wmk := c2.wok
      have ald := wdk.al
      have alm := wmk.al
      have ld1 : LawAt wd1 (-1) := law_ok (by omega) (c1.run (Nat.le_refl _) 1)
      walk_at "gg"
      refine g_join (.inl (.inl h13)) (ald.js (by omega)) ?_
      walk_at "gg"
      refine ⟨txt wd1, rfl, ald.sz (by omega), txt_asc ald, let_ok ald c1.ne ld1, fun H4 s4 => ?_⟩
      have h14 := s4 _ _ h13
      have ptd := ptc.same s4
      have ald2 : WsAl [("<=" : Str)] := wsAl_one (Wok.al wok_by)
      walk_at "gg"
      refine ⟨one_le, fun m1 hm1 => ?_⟩
      have s5 := same_new hm1 (.lst [V.str "<="])
      walk_at "gg"
      refine g_addL (s5 _ _ h14) upd_same (szS (ys := [("<=" : Str)]) (by show _ + 1 ≤ _; omega)) fun m2 hm2 => ?_
      rw [show wd1.map V.str ++ [V.str "<="] = (wd1 ++ [("<=" : Str)]).map V.str by rw [List.map_append]; rfl]
      have s6 := s5.trans (same_new hm2 (.lst ((wd1 ++ [("<=" : Str)]).map V.str)))
      have e1 : (wd1 ++ [("<=" : Str)]).length = wd1.length + 1 := List.length_append
      walk_at "gg"
      refine g_addL upd_same (s6 _ _ h14) (szS (by omega)) fun m3 hm3 => ?_
      rw [mapS]
      have s7 := s6.trans (same_new hm3 (.lst ((wd1 ++ [("<=" : Str)] ++ wd1).map V.str)))
      have e2 : (wd1 ++ [("<=" : Str)] ++ wd1).length = wd1.length + 1 + wd1.length := by rw [List.length_append, e1]
      have al2 : WsAl (wd1 ++ [("<=" : Str)] ++ wd1) := wsAl_app (wsAl_app ald ald2) ald
      have ne2 : wd1 ++ [("<=" : Str)] ++ wd1 ≠ [] := fun e => c1.ne (List.append_eq_nil_iff.mp e).2
      have ld2 : LawAt (wd1 ++ [("<=" : Str)] ++ wd1) (-1) := law_ok (by omega) (s := 2) (by
        show runL ⟨[], [("part" : Str)], 1⟩ _ = _
        rw [List.append_assoc, runL_app (c1.run (Nat.le_refl _) 1), List.singleton_append, runL_cons (st_le rfl)]
        exact c1.run (Nat.le_refl _) 2)
      walk_at "gg"
      refine g_join (.inl (.inl upd_same)) (al2.js (by omega)) ?_
      walk_at "gg"
      refine ⟨txt (wd1 ++ [("<=" : Str)] ++ wd1), rfl, al2.sz (by omega), txt_asc al2, let_ok al2 ne2 ld2, fun H5 s8 => ?_⟩
      have s9 := s4.trans (s7.trans s8)
      have ptf := ptc.same s9
      have hl5 := s9 _ _ hl3
      have h25 := s9 _ _ h23
      obtain ⟨xs, rest, b, da⟩ := deep_at c2
      have hlen : wm.length = xs.length + 1 + rest.length := by
        rw [da.eq, List.length_append, List.length_cons]
        omega
      have hat : (opL wm wm.length)[12]? = some xs.length := by
        rw [da.eq] at hlen ⊢
        exact opL_at da.cnt rest.length hlen
      clear s4 s5 s6 s7 s8
      walk_at "gg"
      refine g_ixL (v := .int (xs.length : Int)) (.inl (.inl hl5)) ?_ ?_
      · rw [show (12 : Int) = ((12 : Nat) : Int) from rfl]
        refine atI_nat ?_
        rw [List.getElem?_map, hat]
        rfl
      have la1 : LawAt wm ((xs.length : Nat) : Int) := by
        rw [da.eq]
        exact law_bad (by have := da.len; omega) da.run da.no1
      walk_at "gg"
      refine g_join (.inl (.inl h25)) (alm.js (by omega)) ?_
      walk_at "gg"
      refine ⟨txt wm, xs.length, rfl, alm.sz (by omega), ref_ok alm c2.ne la1, fun H6 s6 => ?_⟩
      have h26 := s6 _ _ h25
      have ptg := ptf.same s6
      walk_at "gg"
      refine ⟨two_le, fun n1 hn1 => ?_⟩
      have t1 := same_new hn1 (.lst [V.str "1", V.str "-"])
      walk_at "gg"
      refine g_addL upd_same (t1 _ _ h26) (szS (xs := [("1" : Str), "-"]) (by show 2 + _ ≤ _; omega)) fun n2 hn2 => ?_
      rw [show [V.str "1", V.str "-"] ++ wm.map V.str = (("1" : Str) :: ("-" : Str) :: wm).map V.str from rfl]
      have t2 := t1.trans (same_new hn2 (.lst ((("1" : Str) :: ("-" : Str) :: wm).map V.str)))
      have al3 : WsAl (("1" : Str) :: ("-" : Str) :: wm) := wsAl_app (xs := [("1" : Str), "-"]) (wsAl_two (Wok.al wok_by) (Wok.al wok_by)) alm
      have la2 : LawAt (("1" : Str) :: ("-" : Str) :: wm) (((xs.length + 2 : Nat) : Int)) := by
        rw [da.eq]
        refine law_bad (xs := ("1" : Str) :: ("-" : Str) :: xs) (by have := da.len; show xs.length + 1 + 1 < _; omega) (b := b) ?_ da.no1
        show runL ⟨[], [("part" : Str)], 1⟩ _ = _
        rw [runL_cons (st_rat (by decide +kernel) (by decide +kernel)), runL_cons (st_op (.inr (.inl rfl)))]
        exact da.run
      have e3 : (("1" : Str) :: ("-" : Str) :: wm).length = wm.length + 2 := rfl
      walk_at "gg"
      refine g_join (.inl (.inl upd_same)) (al3.js (by omega)) ?_
      walk_at "gg"
      refine ⟨txt (("1" : Str) :: ("-" : Str) :: wm), xs.length + 2, rfl, al3.sz (by omega), ref_ok al3 (fun e => nomatch e) la2, fun H7 s7 => ?_⟩
      have t3 := s6.trans (t2.trans s7)
      have h27 := t3 _ _ h25
      have pth := ptf.same t3
      clear s6 t1 t2 s7
      have ewx : wm.take xs.length = xs := by rw [da.eq, List.take_left]
      have alx : WsAl xs := by rw [← ewx]; exact wsAl_take alm _
      have nex : xs ≠ [] := by
        intro e
        have := da.cnt
        rw [e] at this
        cases this
      have l30 := da.len
      walk_at "gg"
      refine .inl ⟨lm, _, rfl, .inl (.inl h27), fun k1 hk1 => ?_⟩
      rw [cut_take, ewx]
      have u1 := same_new hk1 (.lst (xs.map V.str))
      walk_at "gg"
      refine g_join (.inl (.inl upd_same)) (alx.js (by omega)) ?_
      walk_at "gg"
      refine ⟨txt xs, xs.length, rfl, alx.sz (by omega), ref_ok alx nex (law_short (by omega) da.run da.acc), fun H8 s8 => ?_⟩
      have u2 := t3.trans (u1.trans s8)
      have h28 := u2 _ _ h25
      have pti := ptf.same u2
      clear u1 s8 t3
      walk_at "gg"
      refine .inl ⟨lm, _, rfl, .inl (.inl h28), fun k2 hk2 => ?_⟩
      rw [cut_take, ewx]
      have v1 := same_new hk2 (.lst (xs.map V.str))
      walk_at "gg"
      refine ⟨one_le, fun k3 hk3 => ?_⟩
      have v2 := v1.trans (same_new hk3 (.lst [V.str ")"]))
      walk_at "gg"
      refine g_addL (keep upd_same hk3) upd_same (szS (ys := [(")" : Str)]) (by show _ + 1 ≤ _; omega)) fun k4 hk4 => ?_
      rw [show xs.map V.str ++ [V.str ")"] = (xs ++ [(")" : Str)]).map V.str by rw [List.map_append]; rfl]
      have v3 := v2.trans (same_new hk4 (.lst ((xs ++ [(")" : Str)]).map V.str)))
      walk_at "gg"
      refine .inl ⟨lm, _, rfl, .inl (.inl (v3 _ _ h28)), fun k5 hk5 => ?_⟩
      rw [show ((xs.length : Int) + 1) = ((xs.length + 1 : Nat) : Int) from rfl, cut_drop]
      have v4 := v3.trans (same_new hk5 (.lst ((wm.drop (xs.length + 1)).map V.str)))
      have e4 : (xs ++ [(")" : Str)]).length = xs.length + 1 := List.length_append
      have e5 : (wm.drop (xs.length + 1)).length ≤ wm.length := by rw [List.length_drop]; omega
      walk_at "gg"
      refine g_addL (keep upd_same hk5) upd_same (szS (by omega)) fun k6 hk6 => ?_
      rw [mapS]
      have v5 := v4.trans (same_new hk6 (.lst ((xs ++ [(")" : Str)] ++ wm.drop (xs.length + 1)).map V.str)))
      have al5 : WsAl (xs ++ [(")" : Str)] ++ wm.drop (xs.length + 1)) := wsAl_app (wsAl_app alx (wsAl_one (Wok.al wok_by))) (wsAl_drop alm _)
      have e6 : (xs ++ [(")" : Str)] ++ wm.drop (xs.length + 1)).length ≤ 200 := by rw [List.length_append]; omega
      have la5 : LawAt (xs ++ [(")" : Str)] ++ wm.drop (xs.length + 1)) ((xs.length : Nat) : Int) := by
        rw [List.append_assoc]
        exact law_bad (by omega) da.run da.no2
      walk_at "gg"
      refine g_join (.inl (.inl upd_same)) (al5.js (by omega)) ?_
      walk_at "gg"
      exact ⟨txt (xs ++ [(")" : Str)] ++ wm.drop (xs.length + 1)), xs.length, rfl, al5.sz (by omega), ref_ok al5 (fun e => nex (List.append_eq_nil_iff.mp (List.append_eq_nil_iff.mp e).1).1) la5, fun H9 s9 => q H9 ((pti.same v5).same s9)⟩
end
end My
namespace My
open PySem PySem.Spec PyProof.Rows L2 He He5 Go NumT RatA TL TxtA DeqA
local macro_rules | `(tactic| walk_at "gv") => `(tactic| first
  | with_reducible refine g_v0 ?_ | with_reducible refine g_v1 ?_ | with_reducible refine g_v2 ?_ | with_reducible refine g_v3 ?_ | with_reducible refine g_v4 ?_ | with_reducible refine g_v5 ?_
  | with_reducible refine g_v6 ?_ | with_reducible refine g_v7 ?_ | with_reducible refine g_v8 ?_ | with_reducible refine g_v9 ?_ | with_reducible refine g_v10 ?_ | with_reducible refine g_v11 ?_ | with_reducible refine g_v12 ?_)
local macro_rules | `(tactic| walk_at "gn") => `(tactic| first
  | with_reducible refine g_n0 ?_ | with_reducible refine g_n1 ?_ | with_reducible refine g_n2 ?_ | with_reducible refine g_n3 ?_ | with_reducible refine g_n4 ?_ | with_reducible refine g_n5 ?_
  | with_reducible refine g_n6 ?_ | with_reducible refine g_n7 ?_ | with_reducible refine g_n8 ?_ | with_reducible refine g_n9 ?_ | with_reducible refine g_n10 ?_ | with_reducible refine g_n11 ?_ | with_reducible refine g_n12 ?_)
local macro_rules | `(tactic| walk_at "gs") => `(tactic| first
  | with_reducible refine g_asg ?_ | with_reducible refine g_ret ?_ | with_reducible refine g_if ?_ | with_reducible refine g_drop ?_ | with_reducible refine g_next ?_
  | with_reducible refine g_retN ?_ | with_reducible refine g_brk ?_ | with_reducible refine g_cont ?_ | with_reducible refine g_forA ?_ | with_reducible refine g_sfld ?_)
local macro_rules | `(tactic| walk_at "ge") => `(tactic| first
  | with_reducible refine g_c ?_ | with_reducible refine g_op ?_ | with_reducible refine g_test ?_ | with_reducible refine g_bl ?_ | with_reducible refine g_tB ?_ | with_reducible refine g_not ?_
  | with_reducible refine g_and ?_ | with_reducible refine g_or ?_ | with_reducible refine g_notV ?_ | with_reducible refine g_andV ?_ | with_reducible refine g_orV ?_ | with_reducible refine g_ifE ?_
  | with_reducible refine g_un ?_ | with_reducible refine g_chain ?_ | with_reducible refine g_nil ?_ | with_reducible refine g_cons ?_ | with_reducible refine g_tup ?_ | with_reducible refine g_lst ?_
  | with_reducible refine g_cb ?_ | with_reducible refine g_call ?_ | with_reducible refine g_cmeth ?_ | with_reducible refine g_make ?_ | with_reducible refine g_noPart ?_ | with_reducible refine g_part ?_
  | with_reducible refine g_partI ?_ | with_reducible refine g_sl ?_ | with_reducible refine g_m1 ?_ | with_reducible refine g_m0 ?_ | with_reducible refine g_isS ?_ | with_reducible refine g_gsub ?_
  | with_reducible refine g_gcons ?_ | with_reducible refine g_gnil ?_ | with_reducible refine g_bm ?_ | with_reducible refine g_bm0 ?_ | with_reducible refine g_mk ?_ | with_reducible refine g_lc ?_ | with_reducible refine g_fld ?_ | with_reducible refine g_yes ?_)
local macro_rules | `(tactic| walk_at "go_") => `(tactic| first
  | with_reducible refine g_addI ?_ | with_reducible refine g_subI ?_ | with_reducible refine g_ltI ?_ | with_reducible refine g_leI ?_ | with_reducible refine g_gtI ?_ | with_reducible refine g_geI ?_
  | with_reducible refine g_eqI ?_ | with_reducible refine g_eqS ?_ | with_reducible refine g_neI ?_ | with_reducible refine g_neS ?_
  | with_reducible refine g_isNn ?_ | with_reducible refine g_isNi ?_ | with_reducible refine g_isNs ?_ | with_reducible refine g_isNr ?_
  | with_reducible refine g_notNn ?_ | with_reducible refine g_notNi ?_ | with_reducible refine g_notNs ?_ | with_reducible refine g_notNr ?_ | with_reducible refine g_neg ?_
  | with_reducible refine g_inS ?_ | with_reducible refine g_niS ?_ | with_reducible refine g_iteT ?_ | with_reducible refine g_iteF ?_ | with_reducible refine g_iteNT ?_ | with_reducible refine g_iteNF ?_
  | with_reducible refine g_intI ?_ | with_reducible refine g_intB ?_ | with_reducible refine g_gcd ?_ | with_reducible refine g_max2 ?_ | with_reducible refine g_min2 ?_ | with_reducible refine g_stw ?_ | with_reducible refine g_abs ?_
  | with_reducible refine g_iStr ?_ | with_reducible refine g_exS ?_ | with_reducible refine g_iList ?_ | with_reducible refine g_iTup ?_ | with_reducible refine g_iR1 ?_ | with_reducible refine g_iR2 ?_ | with_reducible refine g_exR1 (by omega) (by omega) ?_ | with_reducible refine g_exR2 (by omega) ?_)
local macro_rules | `(tactic| walk_at "go1") => `(tactic| first | walk_at "gs" | with_reducible refine g_seq ?_ | walk_at "gv" | walk_at "ge" | walk_at "gn" | walk_at "go_")
local macro_rules | `(tactic| walk_at "go") => `(tactic| repeat walk_at "go1")
local macro_rules | `(tactic| walk_at "gl") => `(tactic| first
  | with_reducible refine g_lenS (by assumption) ?_ | with_reducible refine g_lenL (by assumption) ?_ | with_reducible refine g_lenT (by assumption) ?_ | with_reducible refine g_exL (by assumption) ?_ | with_reducible refine g_exT (by assumption) ?_)
local macro_rules | `(tactic| walk_at "gw") => `(tactic| repeat (first | walk_at "gs" | walk_at "gv" | walk_at "ge" | walk_at "gn" | walk_at "go_" | walk_at "gl"))
local macro_rules | `(tactic| walk_at "go2") => `(tactic| first | walk_at "go1" | walk_at "gl")
local macro_rules | `(tactic| walk_at "gg") => `(tactic| repeat walk_at "go2")

/-! ### two hundred words -/
/-- so many sums behind a part -/
def sumL (nm : Str) : Nat → List Str
  | 0 => [("forests" : Str), nm]
  | i + 1 => sumL nm i ++ [("+" : Str), "1"]
theorem sumL_len (nm : Str) : ∀ i, (sumL nm i).length = 2 + 2 * i
  | 0 => rfl
  | i + 1 => by
    show (sumL nm i ++ _).length = _
    rw [List.length_append, sumL_len nm i]
    show _ + 2 = _
    omega
theorem one_rat : isR ("1" : Str) = true := by decide +kernel
theorem two_rat : isR ("2" : Str) = true := by decide +kernel
theorem sumL_run {nm : Str} (h : isLab nm = true) : ∀ i, runL initA (sumL nm i) = some ⟨[], [("after" : Str)], 1⟩
  | 0 => (po_one (.inl rfl) h).run [] 1
  | i + 1 => by
    show runL initA (sumL nm i ++ _) = _
    rw [runL_app (sumL_run h i), runL_cons (st_op (.inl rfl)), runL_cons (st_rat (by decide +kernel) one_rat)]
    rfl
theorem sumL_ok {nm : Str} (h : isLab nm = true) : ∀ i, WsOk (sumL nm i)
  | 0 => wsOk_two wok_by (lab_wok h)
  | i + 1 => wsOk_app (sumL_ok h i) (wsOk_two wok_by wok_by)
theorem sumL_ne (nm : Str) (i : Nat) : sumL nm i ≠ [] := fun e => by
  have := sumL_len nm i
  rw [e, List.length_nil] at this
  omega
theorem wsAl_set {xs : List Str} (a : WsAl xs) (n : Nat) {x : Str} (h : Wal x) : WsAl (xs.set n x) := fun y hy => by
  rcases List.mem_or_eq_of_mem_set hy with q | rfl
  · exact a y q
  · exact h
section
variable {P : Program} {w : World} {K : PySem.W.Frag} {mg : Str → Option Value} {base : Heap}
theorem ok__law_long (T : Tx fxL fnL K mg) : FnR P w K mg base (L2.CX P w) 68 (ga K "_law_long") spPotB := by
  refine fun_ok (F__law_long T) sc__law_long (fun _ _ _ _ _ _ us hl => match us, hl with | [_], _ => rfl) ?_ ?_
  · rintro vs H Q E ⟨p, l, rfl, _⟩
    rfl
  · rintro cdv A outer s H vs Q E hr ⟨p, l, rfl, hp, q⟩
    refine ⟨_, (pss_cons (ps_set (i := 1) sc__law_long.nd rfl (Or.inl rfl) (pe_lst (pa_cons pe_str (pa_cons (pe_callF ((ok__law_name T).mono (by decide)) hr (takes_of rfl rfl rfl rfl) (by rfl) (gm__law_name T) (k__law_name T) (pa_cons (pv 0) (pa_cons pe_int pa_nil))) pa_nil))))
 (pss_cons (ps_for (passes_of rfl) rfl (pi_range1 (by rfl) (z_range T) (pa_cons pe_int pa_nil)) (pg_name (i := 2) sc__law_long.nd rfl (Or.inl rfl)) (pss_one (ps_set (i := 1) sc__law_long.nd rfl (Or.inl rfl) (pe_op o_add (pv 1) (pe_lst (pa_cons pe_str (pa_cons pe_str pa_nil)))))))
 (pss_cons (ps_set (i := 3) sc__law_long.nd rfl (Or.inl rfl) (pe_callF ((ok__law_spare T).mono (by decide)) hr (takes_of rfl rfl rfl rfl) (by rfl) (gm__law_spare T) (k__law_spare T) (pa_cons (pv 0) (pa_cons pe_int pa_nil))))
 (pss_cons (ps_if (PW.pt (pw_or (pt_not (pt_val (pe_callF ((ok__law_let T).mono (by decide)) hr (takes_of rfl rfl rfl rfl) (by rfl) (gm__law_let T) (k__law_let T) (pa_cons (pe_m1 PySem.F.slot_str_join PySem.F.type_str_join m_join pe_str (pv 1)) pa_nil)))) (pw_or1 (pt_not (pt_val (pe_callF ((ok__law_refused T).mono (by decide)) hr (takes_of rfl rfl rfl rfl) (by rfl) (gm__law_refused T) (k__law_refused T) (pa_cons (pe_m1 PySem.F.slot_str_join PySem.F.type_str_join m_join pe_str (pe_op o_add (pv 1) (pe_lst (pa_cons (pv 3) pa_nil)))) (pa_cons pe_int pa_nil)))))))) (pss_one (ps_ret pe_bl)) pss_nil)
 (pss_cons (ps_set (i := 1) sc__law_long.nd rfl (Or.inl rfl) (pe_op o_add (pv 1) (pe_lst (pa_cons pe_str (pa_cons pe_str pa_nil)))))
 (pss_cons (ps_if (pt_not (pt_val (pe_callF ((ok__law_refused T).mono (by decide)) hr (takes_of rfl rfl rfl rfl) (by rfl) (gm__law_refused T) (k__law_refused T) (pa_cons (pe_m1 PySem.F.slot_str_join PySem.F.type_str_join m_join pe_str (pv 1)) (pa_cons pe_int pa_nil))))) (pss_one (ps_ret pe_bl)) pss_nil)
 (pss_cons (ps_set (i := 4) sc__law_long.nd rfl (Or.inl rfl) (pe_op o_sub pe_int (pe_callF ((ok__law_digit T).mono (by decide)) hr (takes_of rfl rfl rfl rfl) (by rfl) (gm__law_digit T) (k__law_digit T) (pa_cons (pv 0) (pa_cons pe_int pa_nil)))))
 (pss_cons (ps_asg (pe_callF ((ok__law_spare T).mono (by decide)) hr (takes_of rfl rfl rfl rfl) (by rfl) (gm__law_spare T) (k__law_spare T) (pa_cons (pv 0) (pa_cons pe_int pa_nil))) (pg_sub (pv 1) (pv 4) set_list))
 (pss_one (ps_ret (pe_and (pe_callF ((ok__law_asked T).mono (by decide)) hr (takes_of rfl rfl rfl rfl) (by rfl) (gm__law_asked T) (k__law_asked T) (pa_cons (pv 1) pa_nil)) (pe_one (pe_callF ((ok__law_asked T).mono (by decide)) hr (takes_of rfl rfl rfl rfl) (by rfl) (gm__law_asked T) (k__law_asked T) (pa_cons (pe_slice o_sl (pv 1) po_none (po_some pe_int)) pa_nil)))))))))))))), ?_⟩
    refine g_start (σ := [some (.ref p), none, none, none, none]) rfl ?_
    walk_at "gg"
    refine ⟨p, l, 0, rfl, hp, by decide, fun nm H1 hn pt1 => ?_⟩
    walk_at "gg"
    refine ⟨two_le, fun l0 hl0 => ?_⟩
    have pt2 := pt1.new (o := .lst ((sumL nm 0).map V.str)) hl0
    walk_at "gg"
    refine l_range (m := 99) (fun i σ' H' => ∃ (lw : Addr) (o1 o2 o3 : Option V), σ' = [some (.ref p), some (.ref lw), o1, o2, o3] ∧ Pt p l H H' ∧ H lw = none ∧ H' lw = some (.lst ((sumL nm i).map V.str)))
      ⟨l0, _, _, _, rfl, pt2, pt1.free hl0, upd_same⟩ ?_ ?_
    · rintro i σ' H2 hi ⟨lw, o1, o2, o3, rfl, pt, hlw, hw⟩
      walk_at "gg"
      refine ⟨two_le, fun m1 hm1 => ?_⟩
      have pt3 := pt.new (o := .lst [V.str "+", V.str "1"]) hm1
      walk_at "gg"
      refine g_addL (keep hw hm1) upd_same (szS (ys := [("+" : Str), "1"]) (by rw [sumL_len]; show _ + 2 ≤ _; omega)) fun m2 hm2 => ?_
      rw [show (sumL nm i).map V.str ++ [V.str "+", V.str "1"] = (sumL nm (i + 1)).map V.str by show _ = (sumL nm i ++ _).map V.str; rw [List.map_append]; rfl]
      walk_at "gg"
      exact ⟨m2, _, _, _, rfl, pt3.new hm2, pt3.free hm2, upd_same⟩
    · rintro σ' H2 ⟨lw, o1, o2, o3, rfl, pt, hlw, hw⟩
      have hlp : lw ≠ p := fun e => (hp.ne hlw).1 e.symm
      have w200 := sumL_len nm 99
      have run := sumL_run hn.lab 99
      have wk := sumL_ok hn.lab 99
      have ne := sumL_ne nm 99
      generalize hW : sumL nm 99 = W at *
      have al := wk.al
      walk_at "gg"
      refine ⟨p, l, 8, rfl, pt.pot, by decide, fun x H3 hx pt3 => ?_⟩
      have hw3 := pt3.at hw hlp
      have ptb := pt.trans pt3
      walk_at "gg"
      refine g_join (.inl (.inl hw3)) (al.js (by omega)) ?_
      walk_at "gg"
      refine ⟨txt W, rfl, al.sz (by omega), txt_asc al, let_ok al ne (law_ok (by omega) run), fun H4 s4 => ?_⟩
      have hw4 := s4 _ _ hw3
      walk_at "gg"
      refine ⟨one_le, fun m1 hm1 => ?_⟩
      have s5 := same_new hm1 (.lst [V.str x])
      walk_at "gg"
      refine g_addL (s5 _ _ hw4) upd_same (szS (ys := [x]) (by show _ + 1 ≤ _; omega)) fun m2 hm2 => ?_
      rw [show W.map V.str ++ [V.str x] = (W ++ [x]).map V.str by rw [List.map_append]; rfl]
      have s6 := s5.trans (same_new hm2 (.lst ((W ++ [x]).map V.str)))
      have al2 : WsAl (W ++ [x]) := wsAl_app al (wsAl_one hx.al)
      have e2 : (W ++ [x]).length = W.length + 1 := List.length_append
      walk_at "gg"
      refine g_join (.inl (.inl upd_same)) (al2.js (by omega)) ?_
      walk_at "gg"
      refine ⟨txt (W ++ [x]), 200, rfl, al2.sz (by omega), ref_ok al2 (by simp) (law_long (by omega) run (by simp)), fun H5 s7 => ?_⟩
      have s8 := s4.trans (s6.trans s7)
      have hw5 := s8 _ _ hw3
      have ptc := ptb.same s8
      clear s4 s5 s6 s7
      walk_at "gg"
      refine ⟨two_le, fun m3 hm3 => ?_⟩
      have pt6 := ptc.new (o := .lst [V.str "-", V.str "2"]) hm3
      walk_at "gg"
      refine g_addL (keep hw5 hm3) upd_same (szS (ys := [("-" : Str), "2"]) (by show _ + 2 ≤ _; omega)) fun m4 hm4 => ?_
      rw [show W.map V.str ++ [V.str "-", V.str "2"] = (W ++ [("-" : Str), "2"]).map V.str by rw [List.map_append]; rfl]
      have pt7 := pt6.new (o := .lst ((W ++ [("-" : Str), "2"]).map V.str)) hm4
      have al3 : WsAl (W ++ [("-" : Str), "2"]) := wsAl_app al (wsAl_two (Wok.al wok_by) (Wok.al wok_by))
      have e3 : (W ++ [("-" : Str), "2"]).length = W.length + 2 := List.length_append
      have n4 : m4 ≠ p := fun e => (pt6.pot.ne hm4).1 e.symm
      have nl4 : m4 ≠ l := fun e => (pt6.pot.ne hm4).2 e.symm
      have hnew : (upd (upd H5 m3 (.lst [V.str "-", V.str "2"])) m4 (.lst ((W ++ [("-" : Str), "2"]).map V.str))) m4 = some (.lst ((W ++ [("-" : Str), "2"]).map V.str)) := upd_same
      have h4f := pt6.free hm4
      have law3 : LawAt (W ++ [("-" : Str), "2"]) ((200 : Nat) : Int) := law_long (by omega) run (by simp)
      have ne3 : W ++ [("-" : Str), "2"] ≠ [] := by simp
      generalize hU : W ++ [("-" : Str), "2"] = U at *
      walk_at "gg"
      refine g_join (.inl (.inl hnew)) (al3.js (by omega)) ?_
      walk_at "gg"
      refine ⟨txt U, 200, rfl, al3.sz (by omega), ref_ok al3 ne3 law3, fun H6 s6 => ?_⟩
      have pt8 := pt7.same s6
      have hu6 := s6 _ _ hnew
      walk_at "gg"
      refine ⟨p, l, 200, rfl, pt8.pot, by decide, by decide, fun r H7 hr7 pt9 => ?_⟩
      have hu7 := pt9.at hu6 n4
      have pta := pt8.trans pt9
      walk_at "gg"
      refine ⟨p, l, 6, rfl, pta.pot, by decide, fun y H8 hy ptq => ?_⟩
      have hu8 := ptq.at hu7 n4
      have ptd := pta.trans ptq
      walk_at "gg"
      have hix : ixN (U.map V.str).length (199 - (r : Int)) = some (199 - r) := by
        unfold ixN
        rw [if_pos (by omega), List.length_map]
        rw [if_pos (by omega)]
        refine congrArg some ?_
        omega
      refine g_setL hu8 hix ?_
      rw [show (U.map V.str).set (199 - r) (V.str y) = (U.set (199 - r) y).map V.str from List.map_set.symm]
      have pte := pt_put (o := .lst ((U.set (199 - r) y).map V.str)) hp ptd h4f
      have al4 : WsAl (U.set (199 - r) y) := wsAl_set al3 _ hy.al
      have e4 : (U.set (199 - r) y).length = U.length := List.length_set
      have h9 : (upd H8 m4 (.lst ((U.set (199 - r) y).map V.str))) m4 = some (.lst ((U.set (199 - r) y).map V.str)) := upd_same
      generalize hV : U.set (199 - r) y = V0 at *
      walk_at "gg"
      refine ⟨m4, V0, rfl, h9, by omega, al4, fun H9 s9 => ?_⟩
      have h10 := s9 _ _ h9
      have ptf := pte.same s9
      walk_at "gg"
      refine .inl ⟨m4, _, rfl, .inl (.inl h10), fun k1 hk1 => ?_⟩
      rw [show (200 : Int) = ((200 : Nat) : Int) from rfl, cut_take]
      have ptg := ptf.new (o := .lst ((V0.take 200).map V.str)) hk1
      walk_at "gg"
      exact ⟨k1, V0.take 200, rfl, upd_same, by rw [List.length_take]; omega, wsAl_take al4 200, fun H11 s11 => q _ (ptg.same s11)⟩
end
end My
namespace My
open PySem PySem.Spec PyProof.Rows L2 He He5 Go NumT RatA TL TxtA DeqA
local macro_rules | `(tactic| walk_at "gv") => `(tactic| first
  | with_reducible refine g_v0 ?_ | with_reducible refine g_v1 ?_ | with_reducible refine g_v2 ?_ | with_reducible refine g_v3 ?_ | with_reducible refine g_v4 ?_ | with_reducible refine g_v5 ?_
  | with_reducible refine g_v6 ?_ | with_reducible refine g_v7 ?_ | with_reducible refine g_v8 ?_ | with_reducible refine g_v9 ?_ | with_reducible refine g_v10 ?_ | with_reducible refine g_v11 ?_ | with_reducible refine g_v12 ?_)
local macro_rules | `(tactic| walk_at "gn") => `(tactic| first
  | with_reducible refine g_n0 ?_ | with_reducible refine g_n1 ?_ | with_reducible refine g_n2 ?_ | with_reducible refine g_n3 ?_ | with_reducible refine g_n4 ?_ | with_reducible refine g_n5 ?_
  | with_reducible refine g_n6 ?_ | with_reducible refine g_n7 ?_ | with_reducible refine g_n8 ?_ | with_reducible refine g_n9 ?_ | with_reducible refine g_n10 ?_ | with_reducible refine g_n11 ?_ | with_reducible refine g_n12 ?_)
local macro_rules | `(tactic| walk_at "gs") => `(tactic| first
  | with_reducible refine g_asg ?_ | with_reducible refine g_ret ?_ | with_reducible refine g_if ?_ | with_reducible refine g_drop ?_ | with_reducible refine g_next ?_
  | with_reducible refine g_retN ?_ | with_reducible refine g_brk ?_ | with_reducible refine g_cont ?_ | with_reducible refine g_forA ?_ | with_reducible refine g_sfld ?_)
local macro_rules | `(tactic| walk_at "ge") => `(tactic| first
  | with_reducible refine g_c ?_ | with_reducible refine g_op ?_ | with_reducible refine g_test ?_ | with_reducible refine g_bl ?_ | with_reducible refine g_tB ?_ | with_reducible refine g_not ?_
  | with_reducible refine g_and ?_ | with_reducible refine g_or ?_ | with_reducible refine g_notV ?_ | with_reducible refine g_andV ?_ | with_reducible refine g_orV ?_ | with_reducible refine g_ifE ?_
  | with_reducible refine g_un ?_ | with_reducible refine g_chain ?_ | with_reducible refine g_nil ?_ | with_reducible refine g_cons ?_ | with_reducible refine g_tup ?_ | with_reducible refine g_lst ?_
  | with_reducible refine g_cb ?_ | with_reducible refine g_call ?_ | with_reducible refine g_cmeth ?_ | with_reducible refine g_make ?_ | with_reducible refine g_noPart ?_ | with_reducible refine g_part ?_
  | with_reducible refine g_partI ?_ | with_reducible refine g_sl ?_ | with_reducible refine g_m1 ?_ | with_reducible refine g_m0 ?_ | with_reducible refine g_isS ?_ | with_reducible refine g_gsub ?_
  | with_reducible refine g_gcons ?_ | with_reducible refine g_gnil ?_ | with_reducible refine g_bm ?_ | with_reducible refine g_bm0 ?_ | with_reducible refine g_mk ?_ | with_reducible refine g_lc ?_ | with_reducible refine g_fld ?_ | with_reducible refine g_yes ?_)
local macro_rules | `(tactic| walk_at "go_") => `(tactic| first
  | with_reducible refine g_addI ?_ | with_reducible refine g_subI ?_ | with_reducible refine g_ltI ?_ | with_reducible refine g_leI ?_ | with_reducible refine g_gtI ?_ | with_reducible refine g_geI ?_
  | with_reducible refine g_eqI ?_ | with_reducible refine g_eqS ?_ | with_reducible refine g_neI ?_ | with_reducible refine g_neS ?_
  | with_reducible refine g_isNn ?_ | with_reducible refine g_isNi ?_ | with_reducible refine g_isNs ?_ | with_reducible refine g_isNr ?_
  | with_reducible refine g_notNn ?_ | with_reducible refine g_notNi ?_ | with_reducible refine g_notNs ?_ | with_reducible refine g_notNr ?_ | with_reducible refine g_neg ?_
  | with_reducible refine g_inS ?_ | with_reducible refine g_niS ?_ | with_reducible refine g_iteT ?_ | with_reducible refine g_iteF ?_ | with_reducible refine g_iteNT ?_ | with_reducible refine g_iteNF ?_
  | with_reducible refine g_intI ?_ | with_reducible refine g_intB ?_ | with_reducible refine g_gcd ?_ | with_reducible refine g_max2 ?_ | with_reducible refine g_min2 ?_ | with_reducible refine g_stw ?_ | with_reducible refine g_abs ?_
  | with_reducible refine g_iStr ?_ | with_reducible refine g_exS ?_ | with_reducible refine g_iList ?_ | with_reducible refine g_iTup ?_ | with_reducible refine g_iR1 ?_ | with_reducible refine g_iR2 ?_ | with_reducible refine g_exR1 (by omega) (by omega) ?_ | with_reducible refine g_exR2 (by omega) ?_)
local macro_rules | `(tactic| walk_at "go1") => `(tactic| first | walk_at "gs" | with_reducible refine g_seq ?_ | walk_at "gv" | walk_at "ge" | walk_at "gn" | walk_at "go_")
local macro_rules | `(tactic| walk_at "go") => `(tactic| repeat walk_at "go1")
local macro_rules | `(tactic| walk_at "gl") => `(tactic| first
  | with_reducible refine g_lenS (by assumption) ?_ | with_reducible refine g_lenL (by assumption) ?_ | with_reducible refine g_lenT (by assumption) ?_ | with_reducible refine g_exL (by assumption) ?_ | with_reducible refine g_exT (by assumption) ?_)
local macro_rules | `(tactic| walk_at "gw") => `(tactic| repeat (first | walk_at "gs" | walk_at "gv" | walk_at "ge" | walk_at "gn" | walk_at "go_" | walk_at "gl"))
local macro_rules | `(tactic| walk_at "go2") => `(tactic| first | walk_at "go1" | walk_at "gl")
local macro_rules | `(tactic| walk_at "gg") => `(tactic| repeat walk_at "go2")

/-! ### a sign many times -/
def repS (c n : Nat) : Str := ⟨(List.replicate n c).toArray⟩
theorem repS_tl (c n : Nat) : tl (repS c n) = List.replicate n c := by
  show (List.replicate n c).toArray.toList = _
  rw [List.toList_toArray]
theorem fold_rep (c : Nat) : ∀ (n : Nat) (a : Array Nat), ((List.replicate n (#[c] : Array Nat)).foldl (· ++ ·) a).toList = a.toList ++ List.replicate n c
  | 0, a => by simp
  | n + 1, a => by
    rw [List.replicate_succ, List.foldl_cons, fold_rep c n, Array.toList_append, List.append_assoc]
    rfl
def rMulS : R2 := fun x y H Q => ∃ (c n : Nat), x = .str ⟨#[c]⟩ ∧ y = .int (n : Int) ∧ 2 ≤ n ∧ n ≤ 10000 ∧ Q (.str (repS c n)) H
theorem o_mulS {X : Cx} : OpR X (binaryOp .Mult) rMulS := by
  intro pins s σ H x y v u Q I rx ry h
  obtain ⟨c, n, rfl, rfl, h2, hn, q⟩ := h
  obtain ⟨t, rfl⟩ := rx
  obtain ⟨t', rfl⟩ := ry
  have n1 : ¬ (n : Int) < 1 := by omega
  have n2 : ((n : Int) == 1 || (⟨#[c]⟩ : Str).length == 0) = false := by
    rw [show (⟨#[c]⟩ : Str).length = 1 from rfl]
    simp
    omega
  have e : (⟨(List.replicate (n : Int).toNat (⟨#[c]⟩ : Str).cps).foldl (· ++ ·) #[]⟩ : Str) = repS c n := by
    refine ext_tl ?_
    rw [repS_tl]
    show ((List.replicate (n : Int).toNat (#[c] : Array Nat)).foldl (· ++ ·) #[]).toList = _
    rw [fold_rep, Int.toNat_natCast]
    rfl
  refine PySem.P.mul_str ?_ (fun _ _ => ?_) (fun _ _ => ?_) ?_
  · rw [decide_eq_false (show ¬ (n : Int) < -(2 ^ 63 : Int) by omega), decide_eq_false (show ¬ (n : Int) ≥ 2 ^ 63 by omega)]
    rfl
  · rw [show (⟨#[c]⟩ : Str).length = 1 from rfl]
    have : (10000 : Int) ≤ (2 ^ 63 - 1) / (n : Int) ∨ True := .inr trivial
    have h3 : (1 : Int) ≤ (2 ^ 63 - 1) / (n : Int) := (Int.le_ediv_iff_mul_le (by omega)).mpr (by omega)
    exact Int.not_lt.mpr h3
  · rw [show (⟨#[c]⟩ : Str).length = 1 from rfl, Int.toNat_natCast]
    unfold PySem.Builtin.Str.tooLong
    rw [decide_eq_false]
    rw [sizeLine_eq]
    omega
  · rw [if_neg n1, if_neg (by rw [n2]; simp), e]
    refine ⟨?_, .str (repS c n), H, I.tok _, ⟨_, rfl⟩, q⟩
    rw [len_tl, repS_tl, List.length_replicate, sizeLine_eq]
    omega
theorem g_mulS {c n : Nat} {H : Hp} {Q : VK} (h2 : 2 ≤ n) (hn : n ≤ 10000) (h : Q (.str (repS c n)) H) : rMulS (.str ⟨#[c]⟩) (.int (n : Int)) H Q := ⟨c, n, rfl, rfl, h2, hn, h⟩
/-! ### long numbers -/
structure Dg (c : Nat) : Prop where
  lo : 49 ≤ c
  hi : c ≤ 57
theorem Dg.mem {c n x : Nat} (d : Dg c) (h : x ∈ List.replicate n c) : 49 ≤ x ∧ x ≤ 57 := by
  rw [List.eq_of_mem_replicate h]
  exact ⟨d.lo, d.hi⟩
theorem rep_dig {c n : Nat} (d : Dg c) (hn : 0 < n) : digW (List.replicate n c) = true := by
  obtain ⟨m, rfl⟩ : ∃ m, n = m + 1 := ⟨n - 1, by omega⟩
  have h1 : (List.replicate (m + 1) c).all isD = true := List.all_eq_true.mpr fun x hx => isD_iff.mpr (by have := d.mem hx; omega)
  have h2 := d.lo
  unfold digW
  rw [h1]
  rw [List.replicate_succ]
  simp
  omega
theorem rep_wh {c n : Nat} (d : Dg c) (hn : 0 < n) : whW (List.replicate n c) = true := by
  have h := rep_dig d hn
  have hd := d.lo
  have hd2 := d.hi
  obtain ⟨m, rfl⟩ : ∃ m, n = m + 1 := ⟨n - 1, by omega⟩
  rw [List.replicate_succ] at h ⊢
  unfold whW
  split
  · rename_i r e
    have := (List.cons.inj e).1
    omega
  · exact h
theorem neg_wh {c n : Nat} (d : Dg c) (hn : 0 < n) : whW (45 :: List.replicate n c) = true := by
  have h := rep_dig d hn
  have hd := d.lo
  show (List.replicate n c != [48] && digW (List.replicate n c)) = true
  rw [h, Bool.and_true, bne_iff_ne]
  intro e
  obtain ⟨m, rfl⟩ : ∃ m, n = m + 1 := ⟨n - 1, by omega⟩
  rw [List.replicate_succ] at e
  have := (List.cons.inj e).1
  omega
theorem behind_long {x : Str} (h : 20 < x.length) : behind x = [] := by
  have ne : ∀ z : Str, z.length ≤ 20 → x ≠ z := fun z hz e => by rw [e] at h; omega
  unfold behind
  rw [if_neg, if_neg, if_neg, if_neg, if_neg, if_neg]
  · rintro (h | h | h) <;> exact ne _ (by decide +kernel) h
  · exact ne _ (by decide +kernel)
  · exact ne _ (by decide +kernel)
  · exact ne _ (by decide +kernel)
  · rintro (h | h) <;> exact ne _ (by decide +kernel) h
  · rintro (h | h) <;> exact ne _ (by decide +kernel) h
theorem part_long {x : Str} {S : List Int} {s : Int} (h : 2000 < x.length) : stepA ⟨S, [("part" : Str)], s⟩ x = none := by
  refine part_no ?_ (behind_long (by omega)) ?_
  · unfold okR
    rw [decide_eq_false (by rw [← len_tl]; omega)]
    rfl
  · rintro ⟨e, _⟩
    rw [e] at h
    revert h
    decide +kernel
theorem spl_txt {ws : List Str} {x : Str} (e : x = txt ws) (hne : ws ≠ []) (h : ∀ y ∈ ws, 32 ∉ tl y) : Txt.split x (" " : Str) = ws := by
  rw [e]
  exact split_join (S := []) space_tl (by decide +kernel) hne h
theorem one_txt (x : Str) : x = txt [x] := ext_tl (by rw [txt_tl]; rfl)
def kA : List Str := [("power" : Str), "a", "["]
def kB : List Str := [("energy" : Str), "a", "[", "1"]
def kC : List Str := [("1" : Str), "+"]
theorem kB_run : runL initA kB = some ⟨[], ["numbers", "after"], 1⟩ := by
  have hb : behind ("energy" : Str) = (["label", "[", "number", "numbers"] : List Str) := by decide +kernel
  show runL ⟨[], [("part" : Str)], 1⟩ [("energy" : Str), "a", "[", "1"] = _
  rw [runL_cons (st_mea (by decide +kernel)), hb, runL_cons (b := ⟨[], ["[", "number", "numbers", "after"], 1⟩) (by rw [List.cons_append, st_lab, if_pos (by decide +kernel)]; rfl), runL_cons (b := ⟨[], ["number", "numbers", "after"], 1⟩) (by rw [st_lb, if_pos rfl]), runL_cons (b := ⟨[], ["numbers", "after"], 1⟩) (by rw [st_numN, if_pos (by decide +kernel)])]
  rfl
theorem kA_run {x : Str} (hx : okN x = true) : runL initA (kA ++ [x, "]"]) = some ⟨[], ["after"], 1⟩ := by
  have hb : behind ("power" : Str) = (["label", "[", "number", "numbers"] : List Str) := by decide +kernel
  show runL ⟨[], [("part" : Str)], 1⟩ [("power" : Str), "a", "[", x, "]"] = _
  rw [runL_cons (st_mea (by decide +kernel)), hb, runL_cons (b := ⟨[], ["[", "number", "numbers", "after"], 1⟩) (by rw [List.cons_append, st_lab, if_pos (by decide +kernel)]; rfl), runL_cons (b := ⟨[], ["number", "numbers", "after"], 1⟩) (by rw [st_lb, if_pos rfl]), runL_cons (b := ⟨[], ["numbers", "after"], 1⟩) (by rw [st_numN, if_pos hx]), runL_cons (b := ⟨[], ["after"], 1⟩) (by rw [st_numsN, if_pos rfl])]
  rfl
theorem kC_run : runL initA kC = some ⟨[], ["part"], 1⟩ := by
  show runL ⟨[], [("part" : Str)], 1⟩ [("1" : Str), "+"] = _
  rw [runL_cons (st_rat (by decide +kernel) one_rat), runL_cons (st_op (.inl rfl))]
  rfl
theorem rep_nos {c n : Nat} (d : Dg c) : 32 ∉ tl (repS c n) := by
  rw [repS_tl]
  intro h
  have := d.mem h
  omega
theorem neg_tl (c n : Nat) : tl (("-" : Str) ++ repS c n) = 45 :: List.replicate n c := by
  rw [tl_append, repS_tl]
  rfl
theorem neg_nos {c n : Nat} (d : Dg c) : 32 ∉ tl (("-" : Str) ++ repS c n) := by
  rw [neg_tl]
  intro h
  rcases List.mem_cons.mp h with h | h
  · omega
  · have := d.mem h
    omega
theorem rep_len (c n : Nat) : (repS c n).length = n := by rw [len_tl, repS_tl, List.length_replicate]
theorem neg_len (c n : Nat) : (("-" : Str) ++ repS c n).length = n + 1 := by rw [len_tl, neg_tl, List.length_cons, List.length_replicate]
theorem rep_asc {c n : Nat} (d : Dg c) : ∀ x ∈ tl (repS c n), x < 0x110000 := fun x h => by
  rw [repS_tl] at h
  have := d.mem h
  omega
theorem nosl_rep {c n : Nat} (d : Dg c) : 47 ∉ List.replicate n c := fun h => by
  have := d.mem h
  omega
theorem rep_rat {c n : Nat} (d : Dg c) (h0 : 0 < n) (hn : n ≤ 2000) : isR (repS c n) = true := by
  unfold isR
  have hl : (tl (repS c n)).length ≤ 2000 := by rw [← len_tl, rep_len]; exact hn
  rw [okR_none hl (by rw [repS_tl]; exact par_none1 (nosl_rep d)), okW_t hl, repS_tl]
  exact rep_wh d h0
theorem neg_rat {c n : Nat} (d : Dg c) (h0 : 0 < n) (hn : n < 2000) : isR (("-" : Str) ++ repS c n) = true := by
  unfold isR
  have hl : (tl (("-" : Str) ++ repS c n)).length ≤ 2000 := by rw [← len_tl, neg_len]; exact hn
  rw [okR_none hl (by
    rw [neg_tl]
    refine par_none1 fun h => ?_
    rcases List.mem_cons.mp h with h | h
    · omega
    · exact nosl_rep d h), okW_t hl, neg_tl]
  exact neg_wh d h0
theorem neg_num {c n : Nat} (d : Dg c) (h0 : 0 < n) (hn : n ≤ 2000) : okN (("-" : Str) ++ repS c n) = true := by
  unfold okN okW
  rw [if_pos rfl, neg_tl, neg_wh d h0]
  simp
  exact hn
theorem rep_num {c n : Nat} (d : Dg c) (h0 : 0 < n) (hn : 2000 < n) : okN (repS c n) = false := by
  unfold okN okW
  rw [if_pos rfl, repS_tl]
  obtain ⟨m, rfl⟩ : ∃ m, n = m + 1 := ⟨n - 1, by omega⟩
  have h2 := d.lo
  rw [if_neg (by rw [List.replicate_succ]; intro e; have := Option.some.inj e; have := d.hi; omega), List.length_replicate, decide_eq_false (by omega), Bool.and_false]
theorem long_ne {x z : Str} (h : 20 < x.length) (hz : z.length ≤ 20) : x ≠ z := fun e => by rw [e] at h; omega
section
variable {P : Program} {w : World} {K : PySem.W.Frag} {mg : Str → Option Value} {base : Heap}
theorem asc_by {x : Str} {S : List Nat} (e : tl x = S) (h : ∀ c ∈ S, c < 0x110000) : asc x = true := asc_iff.mpr (by rw [e]; exact h)
theorem ta_tl (x : Str) : tl (("power a [ -" : Str) ++ x ++ " ]") = tl (txt (kA ++ [("-" : Str) ++ x, "]"])) := by
  rw [txt_tl, tl_append, tl_append]
  show _ = tl "power" ++ ([32] ++ (tl "a" ++ ([32] ++ (tl "[" ++ ([32] ++ (tl (("-" : Str) ++ x) ++ ([32] ++ tl "]")))))))
  rw [tl_append ("-" : Str), show tl ("power a [ -" : Str) = tl "power" ++ ([32] ++ (tl "a" ++ ([32] ++ (tl "[" ++ ([32] ++ tl "-"))))) by decide +kernel, show tl (" ]" : Str) = [32] ++ tl "]" by decide +kernel]
  simp only [List.append_assoc]
theorem tb_tl (x : Str) : tl (("energy a [ 1 " : Str) ++ x ++ " ]") = tl (txt (kB ++ [x, "]"])) := by
  rw [txt_tl, tl_append, tl_append]
  show _ = tl "energy" ++ ([32] ++ (tl "a" ++ ([32] ++ (tl "[" ++ ([32] ++ (tl "1" ++ ([32] ++ (tl x ++ ([32] ++ tl "]")))))))))
  rw [show tl ("energy a [ 1 " : Str) = tl "energy" ++ ([32] ++ (tl "a" ++ ([32] ++ (tl "[" ++ ([32] ++ (tl "1" ++ [32])))))) by decide +kernel, show tl (" ]" : Str) = [32] ++ tl "]" by decide +kernel]
  simp only [List.append_assoc]
theorem tc_tl (x : Str) : tl (("1 + -" : Str) ++ x) = tl (txt (kC ++ [("-" : Str) ++ x])) := by
  rw [txt_tl, tl_append]
  show _ = tl "1" ++ ([32] ++ (tl "+" ++ ([32] ++ tl (("-" : Str) ++ x))))
  rw [tl_append ("-" : Str), show tl ("1 + -" : Str) = tl "1" ++ ([32] ++ (tl "+" ++ ([32] ++ tl "-"))) by decide +kernel]
  simp only [List.append_assoc]
theorem add_len (x y : Str) : (x ++ y).length = x.length + y.length := by rw [len_tl, tl_append, List.length_append, ← len_tl, ← len_tl]
theorem asc_app {x y : Str} (h1 : asc x = true) (h2 : asc y = true) : asc (x ++ y) = true := asc_iff.mpr fun c hc => by
  rw [tl_append] at hc
  rcases List.mem_append.mp hc with hc | hc
  · exact asc_iff.mp h1 c hc
  · exact asc_iff.mp h2 c hc
theorem ok__law_many_digits (T : Tx fxL fnL K mg) : FnR P w K mg base (L2.CX P w) 66 (ga K "_law_many_digits") spPotB := by
  refine fun_ok (F__law_many_digits T) sc__law_many_digits (fun _ _ _ _ _ _ us hl => match us, hl with | [_], _ => rfl) ?_ ?_
  · rintro vs H Q E ⟨p, l, rfl, _⟩
    rfl
  · rintro cdv A outer s H vs Q E hr ⟨p, l, rfl, hp, q⟩
    refine ⟨_, (pss_cons (ps_set (i := 1) sc__law_many_digits.nd rfl (Or.inl rfl) (pe_callTy b_str (by rfl) (z_str T) (by decide +kernel) (pa_cons (pe_op o_add pe_int (pe_op o_mod (pe_callTy (c_int (nd_int T)) (by rfl) (z_int T) (by decide +kernel) (pa_cons (pe_op o_add (pe_callF ((ok__law_digit T).mono (by decide)) hr (takes_of rfl rfl rfl rfl) (by rfl) (gm__law_digit T) (k__law_digit T) (pa_cons (pv 0) (pa_cons pe_int pa_nil))) pe_int) pa_nil)) pe_int)) pa_nil)))
 (pss_cons (ps_if (PW.pt (pw_or (pt_not (pt_val (pe_callF ((ok__law_let T).mono (by decide)) hr (takes_of rfl rfl rfl rfl) (by rfl) (gm__law_let T) (k__law_let T) (pa_cons (pe_op o_mulS (pv 1) pe_int) pa_nil)))) (pw_or1 (pt_not (pt_val (pe_callF ((ok__law_refused T).mono (by decide)) hr (takes_of rfl rfl rfl rfl) (by rfl) (gm__law_refused T) (k__law_refused T) (pa_cons (pe_op o_mulS (pv 1) pe_int) (pa_cons pe_int pa_nil)))))))) (pss_one (ps_ret pe_bl)) pss_nil)
 (pss_cons (ps_if (pt_not (pt_val (pe_callF ((ok__law_let T).mono (by decide)) hr (takes_of rfl rfl rfl rfl) (by rfl) (gm__law_let T) (k__law_let T) (pa_cons (pe_op o_add (pe_op o_add pe_str (pe_op o_mulS (pv 1) pe_int)) pe_str) pa_nil)))) (pss_one (ps_ret pe_bl)) pss_nil)
 (pss_cons (ps_if (pt_not (pt_val (pe_callF ((ok__law_refused T).mono (by decide)) hr (takes_of rfl rfl rfl rfl) (by rfl) (gm__law_refused T) (k__law_refused T) (pa_cons (pe_op o_add (pe_op o_add pe_str (pe_op o_mulS (pv 1) pe_int)) pe_str) (pa_cons pe_int pa_nil))))) (pss_one (ps_ret pe_bl)) pss_nil)
 (pss_one (ps_ret (pe_and (pe_callF ((ok__law_let T).mono (by decide)) hr (takes_of rfl rfl rfl rfl) (by rfl) (gm__law_let T) (k__law_let T) (pa_cons (pe_op o_add pe_str (pe_op o_mulS (pv 1) pe_int)) pa_nil)) (pe_one (pe_callF ((ok__law_refused T).mono (by decide)) hr (takes_of rfl rfl rfl rfl) (by rfl) (gm__law_refused T) (k__law_refused T) (pa_cons (pe_op o_add pe_str (pe_op o_mulS (pv 1) pe_int)) (pa_cons pe_int pa_nil))))))))))), ?_⟩
    refine g_start (σ := [some (.ref p), none]) rfl ?_
    walk_at "gg"
    refine ⟨p, l, 9, rfl, hp, by decide, by decide, fun r H1 hr1 pt1 => ?_⟩
    walk_at "gg"
    refine g_modI (by decide) ?_
    obtain ⟨dn, hdn, hd1, hd9⟩ : ∃ dn : Nat, 1 + ((r : Int) + 8) % 9 = (dn : Int) ∧ 1 ≤ dn ∧ dn ≤ 9 := ⟨(1 + ((r : Int) + 8) % 9).toNat, by omega, by omega, by omega⟩
    walk_at "gg"
    rw [hdn]
    refine g_strI (by
      rw [Int.natAbs_natCast]
      exact Nat.lt_of_le_of_lt (Nat.log2_le_self _) (by omega)) ?_
    have hc : Str.ofString (toString (dn : Int)) = ⟨#[48 + dn]⟩ := by
      refine ext_tl ?_
      rw [tl_int]
      unfold intL
      rw [if_neg (by omega), Int.natAbs_natCast, numL_lt (by omega)]
    rw [hc]
    have dg : Dg (48 + dn) := ⟨by omega, by omega⟩
    generalize 48 + dn = c at *
    have sz : sizeLine = 16777216 := sizeLine_eq
    have al : ∀ n, asc (repS c n) = true := fun n => asc_iff.mpr (rep_asc dg)
    walk_at "gg"
    refine g_mulS (n := 2000) (by decide) (by decide) ?_
    walk_at "gg"
    have rl := rep_len c 2000
    have rl1 := rep_len c 2001
    have rl9 := rep_len c 1999
    refine ⟨repS c 2000, rfl, by omega, al _, ?_, fun H2 s2 => ?_⟩
    · rw [spl_txt (one_txt _) (by simp) (fun y hy => by rw [List.mem_singleton.mp hy]; exact rep_nos dg)]
      refine law_ok (s := 1) (by show 1 ≤ 200; decide) ?_
      exact run_one (st_rat (long_ne (by omega) (by decide +kernel)) (rep_rat dg (by decide) (by decide)))
    have pt2 := pt1.same s2
    walk_at "gg"
    refine g_mulS (n := 2001) (by decide) (by decide) ?_
    walk_at "gg"
    refine ⟨repS c 2001, 0, rfl, by omega, ?_, fun H3 s3 => ?_⟩
    · rw [spl_txt (one_txt _) (by simp) (fun y hy => by rw [List.mem_singleton.mp hy]; exact rep_nos dg)]
      exact law_bad (xs := []) (rest := []) (b := initA) (by decide) rfl (part_long (by omega))
    have pt3 := pt2.same s3
    walk_at "gg"
    refine g_mulS (n := 2000) (by decide) (by decide) ?_
    walk_at "gg"
    have l11 : ("power a [ -" : Str).length ≤ 20 := by decide +kernel
    have l12 : (" ]" : Str).length ≤ 20 := by decide +kernel
    have l13 : ("energy a [ 1 " : Str).length ≤ 20 := by decide +kernel
    have l14 : ("1 + -" : Str).length ≤ 20 := by decide +kernel
    have l15 : ("-" : Str).length ≤ 20 := by decide +kernel
    refine g_addS (by omega) ?_
    walk_at "gg"
    have al1 := add_len "power a [ -" (repS c 2000)
    refine g_addS (by omega) ?_
    walk_at "gg"
    have al2 := add_len ("power a [ -" ++ repS c 2000) " ]"
    refine ⟨_, rfl, by omega, asc_app (asc_app (by decide +kernel) (al _)) (by decide +kernel), ?_, fun H4 s4 => ?_⟩
    · rw [spl_txt (ext_tl (ta_tl _)) (by simp) (fun y hy => by
        rcases List.mem_append.mp hy with hy | hy
        · exact (show ∀ y ∈ kA, 32 ∉ tl y by decide +kernel) y hy
        · rcases List.mem_cons.mp hy with rfl | hy
          · exact neg_nos dg
          · rw [List.mem_singleton.mp hy]; decide +kernel)]
      exact law_ok (s := 1) (by show 5 ≤ 200; decide) (kA_run (neg_num dg (by decide) (by decide)))
    have pt4 := pt3.same s4
    walk_at "gg"
    refine g_mulS (n := 2001) (by decide) (by decide) ?_
    walk_at "gg"
    refine g_addS (by omega) ?_
    walk_at "gg"
    have al3 := add_len "energy a [ 1 " (repS c 2001)
    refine g_addS (by omega) ?_
    walk_at "gg"
    have al4 := add_len ("energy a [ 1 " ++ repS c 2001) " ]"
    refine ⟨_, 4, rfl, by omega, ?_, fun H5 s5 => ?_⟩
    · rw [spl_txt (ext_tl (tb_tl _)) (by simp) (fun y hy => by
        rcases List.mem_append.mp hy with hy | hy
        · exact (show ∀ y ∈ kB, 32 ∉ tl y by decide +kernel) y hy
        · rcases List.mem_cons.mp hy with rfl | hy
          · exact rep_nos dg
          · rw [List.mem_singleton.mp hy]; decide +kernel)]
      exact law_bad (xs := kB) (rest := ["]"]) (by decide) kB_run (by rw [st_numsN, if_neg (long_ne (by omega) (by decide +kernel)), if_neg (by rw [rep_num dg (by decide) (by decide)]; simp)])
    have pt5 := pt4.same s5
    walk_at "gg"
    refine g_mulS (n := 1999) (by decide) (by decide) ?_
    walk_at "gg"
    refine g_addS (by omega) ?_
    walk_at "gg"
    have al5 := add_len "-" (repS c 1999)
    refine ⟨_, rfl, by omega, asc_app (by decide +kernel) (al _), ?_, fun H6 s6 => ?_⟩
    · rw [spl_txt (one_txt _) (by simp) (fun y hy => by rw [List.mem_singleton.mp hy]; exact neg_nos dg)]
      refine law_ok (s := 1) (by show 1 ≤ 200; decide) ?_
      exact run_one (st_rat (long_ne (by rw [neg_len]; decide) (by decide +kernel)) (neg_rat dg (by decide) (by decide)))
    have pt6 := pt5.same s6
    walk_at "gg"
    refine g_mulS (n := 2000) (by decide) (by decide) ?_
    walk_at "gg"
    refine g_addS (by omega) ?_
    walk_at "gg"
    have al6 := add_len "1 + -" (repS c 2000)
    refine ⟨_, 2, rfl, by omega, ?_, fun H7 s7 => q _ (pt6.same s7)⟩
    rw [spl_txt (ext_tl (tc_tl _)) (by simp) (fun y hy => by
        rcases List.mem_append.mp hy with hy | hy
        · exact (show ∀ y ∈ kC, 32 ∉ tl y by decide +kernel) y hy
        · rw [List.mem_singleton.mp hy]
          exact neg_nos dg)]
    exact law_bad (xs := kC) (rest := []) (by decide) kC_run (part_long (by rw [neg_len]; decide))
end
end My
namespace My
open PySem PySem.Spec PyProof.Rows L2 He He5 Go NumT RatA TL TxtA DeqA
local macro_rules | `(tactic| walk_at "gv") => `(tactic| first
  | with_reducible refine g_v0 ?_ | with_reducible refine g_v1 ?_ | with_reducible refine g_v2 ?_ | with_reducible refine g_v3 ?_ | with_reducible refine g_v4 ?_ | with_reducible refine g_v5 ?_
  | with_reducible refine g_v6 ?_ | with_reducible refine g_v7 ?_ | with_reducible refine g_v8 ?_ | with_reducible refine g_v9 ?_ | with_reducible refine g_v10 ?_ | with_reducible refine g_v11 ?_ | with_reducible refine g_v12 ?_)
local macro_rules | `(tactic| walk_at "gn") => `(tactic| first
  | with_reducible refine g_n0 ?_ | with_reducible refine g_n1 ?_ | with_reducible refine g_n2 ?_ | with_reducible refine g_n3 ?_ | with_reducible refine g_n4 ?_ | with_reducible refine g_n5 ?_
  | with_reducible refine g_n6 ?_ | with_reducible refine g_n7 ?_ | with_reducible refine g_n8 ?_ | with_reducible refine g_n9 ?_ | with_reducible refine g_n10 ?_ | with_reducible refine g_n11 ?_ | with_reducible refine g_n12 ?_)
local macro_rules | `(tactic| walk_at "gs") => `(tactic| first
  | with_reducible refine g_asg ?_ | with_reducible refine g_ret ?_ | with_reducible refine g_if ?_ | with_reducible refine g_drop ?_ | with_reducible refine g_next ?_
  | with_reducible refine g_retN ?_ | with_reducible refine g_brk ?_ | with_reducible refine g_cont ?_ | with_reducible refine g_forA ?_ | with_reducible refine g_sfld ?_)
local macro_rules | `(tactic| walk_at "ge") => `(tactic| first
  | with_reducible refine g_c ?_ | with_reducible refine g_op ?_ | with_reducible refine g_test ?_ | with_reducible refine g_bl ?_ | with_reducible refine g_tB ?_ | with_reducible refine g_not ?_
  | with_reducible refine g_and ?_ | with_reducible refine g_or ?_ | with_reducible refine g_notV ?_ | with_reducible refine g_andV ?_ | with_reducible refine g_orV ?_ | with_reducible refine g_ifE ?_
  | with_reducible refine g_un ?_ | with_reducible refine g_chain ?_ | with_reducible refine g_nil ?_ | with_reducible refine g_cons ?_ | with_reducible refine g_tup ?_ | with_reducible refine g_lst ?_
  | with_reducible refine g_cb ?_ | with_reducible refine g_call ?_ | with_reducible refine g_cmeth ?_ | with_reducible refine g_make ?_ | with_reducible refine g_noPart ?_ | with_reducible refine g_part ?_
  | with_reducible refine g_partI ?_ | with_reducible refine g_sl ?_ | with_reducible refine g_m1 ?_ | with_reducible refine g_m0 ?_ | with_reducible refine g_isS ?_ | with_reducible refine g_gsub ?_
  | with_reducible refine g_gcons ?_ | with_reducible refine g_gnil ?_ | with_reducible refine g_bm ?_ | with_reducible refine g_bm0 ?_ | with_reducible refine g_mk ?_ | with_reducible refine g_lc ?_ | with_reducible refine g_fld ?_ | with_reducible refine g_yes ?_)
local macro_rules | `(tactic| walk_at "go_") => `(tactic| first
  | with_reducible refine g_addI ?_ | with_reducible refine g_subI ?_ | with_reducible refine g_ltI ?_ | with_reducible refine g_leI ?_ | with_reducible refine g_gtI ?_ | with_reducible refine g_geI ?_
  | with_reducible refine g_eqI ?_ | with_reducible refine g_eqS ?_ | with_reducible refine g_neI ?_ | with_reducible refine g_neS ?_
  | with_reducible refine g_isNn ?_ | with_reducible refine g_isNi ?_ | with_reducible refine g_isNs ?_ | with_reducible refine g_isNr ?_
  | with_reducible refine g_notNn ?_ | with_reducible refine g_notNi ?_ | with_reducible refine g_notNs ?_ | with_reducible refine g_notNr ?_ | with_reducible refine g_neg ?_
  | with_reducible refine g_inS ?_ | with_reducible refine g_niS ?_ | with_reducible refine g_iteT ?_ | with_reducible refine g_iteF ?_ | with_reducible refine g_iteNT ?_ | with_reducible refine g_iteNF ?_
  | with_reducible refine g_intI ?_ | with_reducible refine g_intB ?_ | with_reducible refine g_gcd ?_ | with_reducible refine g_max2 ?_ | with_reducible refine g_min2 ?_ | with_reducible refine g_stw ?_ | with_reducible refine g_abs ?_
  | with_reducible refine g_iStr ?_ | with_reducible refine g_exS ?_ | with_reducible refine g_iList ?_ | with_reducible refine g_iTup ?_ | with_reducible refine g_iR1 ?_ | with_reducible refine g_iR2 ?_ | with_reducible refine g_exR1 (by omega) (by omega) ?_ | with_reducible refine g_exR2 (by omega) ?_)
local macro_rules | `(tactic| walk_at "go1") => `(tactic| first | walk_at "gs" | with_reducible refine g_seq ?_ | walk_at "gv" | walk_at "ge" | walk_at "gn" | walk_at "go_")
local macro_rules | `(tactic| walk_at "go") => `(tactic| repeat walk_at "go1")
local macro_rules | `(tactic| walk_at "gl") => `(tactic| first
  | with_reducible refine g_lenS (by assumption) ?_ | with_reducible refine g_lenL (by assumption) ?_ | with_reducible refine g_lenT (by assumption) ?_ | with_reducible refine g_exL (by assumption) ?_ | with_reducible refine g_exT (by assumption) ?_)
local macro_rules | `(tactic| walk_at "gw") => `(tactic| repeat (first | walk_at "gs" | walk_at "gv" | walk_at "ge" | walk_at "gn" | walk_at "go_" | walk_at "gl"))
local macro_rules | `(tactic| walk_at "go2") => `(tactic| first | walk_at "go1" | walk_at "gl")
local macro_rules | `(tactic| walk_at "gg") => `(tactic| repeat walk_at "go2")

theorem joinL_end : ∀ {ps : List (List Nat)}, ps ≠ [] → joinL [32] (ps ++ [[]]) = joinL [32] ps ++ [32]
  | [], h => absurd rfl h
  | [p], _ => rfl
  | p :: q :: r, _ => by
    show p ++ ([32] ++ joinL [32] ((q :: r) ++ [[]])) = (p ++ ([32] ++ joinL [32] (q :: r))) ++ [32]
    rw [joinL_end (ps := q :: r) (by simp)]
    simp only [List.append_assoc]
theorem txt_end {ws : List Str} (h : ws ≠ []) : tl (txt ws ++ " ") = tl (txt (ws ++ [("" : Str)])) := by
  rw [tl_append, txt_tl, txt_tl, List.map_append]
  rw [show ([("" : Str)]).map tl = [[]] from rfl, joinL_end (by simpa using h)]
  rfl
theorem txt_beg {ws : List Str} (h : ws ≠ []) : tl (" " ++ txt ws) = tl (txt (("" : Str) :: ws)) := by
  rw [tl_append, txt_tl, txt_tl, List.map_cons]
  cases ws with
  | nil => exact absurd rfl h
  | cons x r => rfl
section
variable {P : Program} {w : World} {K : PySem.W.Frag} {mg : Str → Option Value} {base : Heap}
def spLaw (K : PySem.W.Frag) : Sp := fun vs H Q _ => ∃ (ls : Addr) (xs : List Int), vs = [.ref ls] ∧ SqL K H ls (xs.map V.int) ∧ ∀ H', Q (.bl true) H'
theorem law_step (f : Addr) (A : Around) (outer : List Env) (s : Shared) (cdv : Value) (T : Tx fxL fnL K mg) (H : Hp) (Q : VK) (E : XK) (ls : Addr) (xs : List Int) (hls : SqL K H ls (xs.map V.int)) (q : ∀ H', Q (.bl true) H') (hr : Room 69 (A.deeper (envOfC "law" (defScope s_law) s.heap.objs.size f cdv))) :
    ∃ t, PSs (cxOf (L2.CX P w) P w K mg base ["script", "pot", "words", "text", "kept", "k"] "law" (defScope s_law) f cdv A outer s H E) (defBody s_law) t ∧ t { nx := fun _ H' => Q .non H', rt := Q } (start ["script", "pot", "words", "text", "kept", "k"] [.ref ls]) H := by
  refine ⟨_, (pss_cons (ps_set (i := 1) sc_law.nd rfl (Or.inl rfl) (pe_callF ((ok__law_pot T).mono (by decide)) hr (takes_of rfl rfl rfl rfl) (by rfl) (gm__law_pot T) (k__law_pot T) (pa_cons (pv 0) pa_nil)))
 (pss_cons (ps_set (i := 2) sc_law.nd rfl (Or.inl rfl) (pe_callF ((ok__law_question T).mono (by decide)) hr (takes_of rfl rfl rfl rfl) (by rfl) (gm__law_question T) (k__law_question T) (pa_cons (pv 1) pa_nil)))
 (pss_cons (ps_set (i := 3) sc_law.nd rfl (Or.inl rfl) (pe_m1 PySem.F.slot_str_join PySem.F.type_str_join m_join pe_str (pv 2)))
 (pss_cons (ps_if (PW.pt (pw_or (pt_cmpR (o_ne hr.units) (pe_callF ((ok__law_wrong_at T).mono (by decide)) hr (takes_of rfl rfl rfl rfl) (by rfl) (gm__law_wrong_at T) (k__law_wrong_at T) (pa_cons (pv 2) pa_nil)) (pe_un un_neg pe_int) (nomark _)) (pw_or1 (pt_not (pt_val (pe_callF ((ok__law_let T).mono (by decide)) hr (takes_of rfl rfl rfl rfl) (by rfl) (gm__law_let T) (k__law_let T) (pa_cons (pv 3) pa_nil))))))) (pss_one (ps_ret pe_bl)) pss_nil)
 (pss_cons (ps_set (i := 4) sc_law.nd rfl (Or.inl rfl) (pe_makeF (mk_Question T) ((ok_Question___init__ T).mono (by decide)) hr (takes_of rfl rfl rfl rfl) (by rfl) (gm_Question T) (pa_cons (pv 3) pa_nil)))
 (pss_cons (ps_for (passes_of rfl) rfl (pi_range1 (by rfl) (z_range T) (pa_cons pe_int pa_nil)) (pg_name (i := 5) sc_law.nd rfl (Or.inl rfl)) (pss_one (ps_if (pt_not (pt_val (pe_callF ((ok__law_asked T).mono (by decide)) hr (takes_of rfl rfl rfl rfl) (by rfl) (gm__law_asked T) (k__law_asked T) (pa_cons (pe_callF ((ok__law_changed T).mono (by decide)) hr (takes_of rfl rfl rfl rfl) (by rfl) (gm__law_changed T) (k__law_changed T) (pa_cons (pv 1) (pa_cons (pv 2) (pa_cons (pv 5) pa_nil)))) pa_nil)))) (pss_one (ps_ret pe_bl)) pss_nil)))
 (pss_cons (ps_if (PW.pt (pw_or (pt_not (pt_val (pe_callF ((ok__law_deep T).mono (by decide)) hr (takes_of rfl rfl rfl rfl) (by rfl) (gm__law_deep T) (k__law_deep T) (pa_cons (pv 1) pa_nil)))) (pw_or1 (pt_not (pt_val (pe_callF ((ok__law_long T).mono (by decide)) hr (takes_of rfl rfl rfl rfl) (by rfl) (gm__law_long T) (k__law_long T) (pa_cons (pv 1) pa_nil))))))) (pss_one (ps_ret pe_bl)) pss_nil)
 (pss_cons (ps_if (PW.pt (pw_or (pt_not (pt_val (pe_callF ((ok__law_refused T).mono (by decide)) hr (takes_of rfl rfl rfl rfl) (by rfl) (gm__law_refused T) (k__law_refused T) (pa_cons pe_str (pa_cons pe_int pa_nil))))) (pw_or1 (pt_not (pt_val (pe_callF ((ok__law_refused T).mono (by decide)) hr (takes_of rfl rfl rfl rfl) (by rfl) (gm__law_refused T) (k__law_refused T) (pa_cons pe_str (pa_cons pe_int pa_nil)))))))) (pss_one (ps_ret pe_bl)) pss_nil)
 (pss_cons (ps_if (PW.pt (pw_or (pt_not (pt_val (pe_callF ((ok__law_refused T).mono (by decide)) hr (takes_of rfl rfl rfl rfl) (by rfl) (gm__law_refused T) (k__law_refused T) (pa_cons (pe_op o_add (pv 3) pe_str) (pa_cons (pe_callB b_len (by rfl) (z_len T) (by decide +kernel) (pa_cons (pv 2) pa_nil)) pa_nil))))) (pw_or1 (pt_not (pt_val (pe_callF ((ok__law_refused T).mono (by decide)) hr (takes_of rfl rfl rfl rfl) (by rfl) (gm__law_refused T) (k__law_refused T) (pa_cons (pe_op o_add pe_str (pv 3)) (pa_cons pe_int pa_nil)))))))) (pss_one (ps_ret pe_bl)) pss_nil)
 (pss_cons (ps_if (PW.pt (pw_and (pt_cmpR (o_eq hr.units) (pe_callF ((ok__law_digit T).mono (by decide)) hr (takes_of rfl rfl rfl rfl) (by rfl) (gm__law_digit T) (k__law_digit T) (pa_cons (pv 1) (pa_cons pe_int pa_nil))) pe_int (nomark _)) (pw_and1 (pt_not (pt_val (pe_callF ((ok__law_many_digits T).mono (by decide)) hr (takes_of rfl rfl rfl rfl) (by rfl) (gm__law_many_digits T) (k__law_many_digits T) (pa_cons (pv 1) pa_nil))))))) (pss_one (ps_ret pe_bl)) pss_nil)
 (pss_one (ps_ret (pe_and (pe_callF ((ok__law_let T).mono (by decide)) hr (takes_of rfl rfl rfl rfl) (by rfl) (gm__law_let T) (k__law_let T) (pa_cons (pv 3) pa_nil)) (pe_one (pe_cmpR (o_eq hr.units) (pe_fld (pv 4) rfl) (pe_callTy b_tuple (by rfl) (z_tuple T) (by decide +kernel) (pa_cons (pv 2) pa_nil)) (nomark _)))))))))))))))), ?_⟩
  refine g_start (σ := [some (.ref ls), none, none, none, none, none]) rfl ?_
  walk_at "gg"
  refine ⟨ls, xs, rfl, hls, fun p l H1 s1 hpn hp => ?_⟩
  walk_at "gg"
  refine ⟨p, l, rfl, hp, fun lw ws H2 qo pt2 hlw h2 => ?_⟩
  have al := qo.ok.al
  have l150 := qo.len
  have hlp : lw ≠ p := fun e => (hp.ne hlw).1 e.symm
  obtain ⟨si, hrun⟩ := qo.run
  have lok : LawAt ws (-1) := law_ok (by omega) hrun
  walk_at "gg"
  refine g_join (.inl (.inl h2)) (al.js (by omega)) ?_
  walk_at "gg"
  refine ⟨lw, ws, rfl, h2, by rw [sizeLine_eq]; omega, fun y hy => (al y hy).len, fun r H3 hr3 s3 => ?_⟩
  have e3 := hr3.fn lok
  subst e3
  walk_at "gg"
  refine g_iteNP rfl ?_
  have h3 := s3 _ _ h2
  have pt3 := pt2.same s3
  have tsz := al.sz (by omega)
  have tasc := txt_asc al
  have tlaw := let_ok al qo.pos lok
  walk_at "gg"
  refine ⟨txt ws, rfl, tsz, tasc, tlaw, fun H4 s4 => ?_⟩
  have h4 := s4 _ _ h3
  have pt4 := pt3.same s4
  walk_at "gg"
  intro q0 dx hq0 hdx ne
  refine ⟨q0, dx, txt ws, rfl, tsz, upd_same, fun lm H5 t v b hq ht => ⟨rfl, ?_⟩, fun j lj d H5 b hd hx => ?_⟩
  · have s5 : Same H4 H5 := same_made hq0 hdx b
    have h5 := s5 _ _ h4
    have pt5 := pt4.same s5
    have nq : q0 ≠ p := fun e => (pt4.pot.ne hq0).1 e.symm
    have ntp : t ≠ p := fun e => by
      obtain ⟨cs, i, v, h1, h2, h3⟩ := pt5.pot
      rw [e, h1] at ht
      cases ht
    have spl := txt_split al
    rw [if_neg qo.pos] at spl
    rw [spl] at ht
    walk_at "gg"
    refine l_range (m := 6) (fun i σ' H' => ∃ o1 : Option V, σ' = [some (.ref ls), some (.ref p), some (.ref lw), some (.str (txt ws)), some (.ref q0), o1] ∧ Pt p l H5 H') ⟨_, rfl, Pt.refl pt5.pot⟩ ?_ ?_
    · rintro i σ' H6 hi ⟨o1, rfl, pt6⟩
      have h6 := pt6.at h5 hlp
      walk_at "gg"
      refine ⟨p, l, lw, ws, i, by rw [Int.zero_add], pt6.pot, hlp, h6, qo.ok, qo.pos, by omega, by omega, fun lr rs H7 ar nr pt7 h7 => ?_⟩
      walk_at "gg"
      refine ⟨lr, rs, rfl, h7, by omega, ar, fun H8 s8 => ?_⟩
      walk_at "gg"
      exact ⟨_, rfl, (pt6.trans pt7).same s8⟩
    · rintro σ' H6 ⟨o1, rfl, pt6⟩
      walk_at "gg"
      refine ⟨p, l, rfl, pt6.pot, fun H7 pt7 => ?_⟩
      walk_at "gg"
      refine ⟨p, l, rfl, pt7.pot, fun H8 pt8 => ?_⟩
      have pt9 := (pt6.trans pt7).trans pt8
      have e0 : LawAt (Txt.split ("" : Str) " ") ((0 : Nat) : Int) := by
        rw [spl_txt (one_txt _) (by simp) (fun y hy => by rw [List.mem_singleton.mp hy]; decide +kernel)]
        exact law_bad (xs := []) (rest := []) (b := initA) (by decide) rfl (part_no (by decide +kernel) (by decide +kernel) (by rintro ⟨e, _⟩; revert e; decide +kernel))
      have e1 : LawAt (Txt.split (" " : Str) " ") ((0 : Nat) : Int) := by
        rw [spl_txt (ws := [("" : Str), ""]) (ext_tl (by rw [txt_tl]; decide +kernel)) (by simp) (by decide +kernel)]
        exact law_bad (xs := []) (rest := [""]) (b := initA) (by decide) rfl (part_no (by decide +kernel) (by decide +kernel) (by rintro ⟨e, _⟩; revert e; decide +kernel))
      walk_at "gg"
      refine ⟨("" : Str), 0, rfl, by rw [sizeLine_eq]; decide +kernel, e0, fun H10 s10 => ?_⟩
      walk_at "gg"
      refine ⟨(" " : Str), 0, rfl, by rw [sizeLine_eq]; decide +kernel, e1, fun H11 s11 => ?_⟩
      have pt11 := (pt9.same s10).same s11
      have tl64 : (txt ws).length ≤ 64 * 150 + 150 := by
        have := txt_len (n := 64) fun y hy => (al y hy).len
        omega
      have l1 : (" " : Str).length = 1 := rfl
      walk_at "gg"
      refine g_addS (by rw [sizeLine_eq]; omega) ?_
      walk_at "gg"
      have h11 := pt11.at h5 hlp
      refine g_lenL (.inl (.inl h11)) ?_
      rw [List.length_map]
      walk_at "gg"
      have a1 := add_len (txt ws) " "
      have a2 := add_len " " (txt ws)
      have al2 : WsAl (ws ++ [("" : Str)]) := wsAl_app al (wsAl_one (Wok.al wok_by))
      have al3 : WsAl (("" : Str) :: ws) := wsAl_app (xs := [("" : Str)]) (wsAl_one (Wok.al wok_by)) al
      refine ⟨_, ws.length, rfl, by rw [sizeLine_eq]; omega, ?_, fun H12 s12 => ?_⟩
      · rw [spl_txt (ws := ws ++ [("" : Str)]) (ext_tl (txt_end qo.pos)) (by simp) (fun y hy => (al2 y hy).nos)]
        exact law_bad (rest := []) (by omega) hrun (st_end ⟨by decide +kernel, by decide +kernel, by decide +kernel⟩ (.inl (by decide +kernel)))
      walk_at "gg"
      refine g_addS (by rw [sizeLine_eq]; omega) ?_
      walk_at "gg"
      refine ⟨_, 0, rfl, by rw [sizeLine_eq]; omega, ?_, fun H13 s13 => ?_⟩
      · rw [spl_txt (ws := ("" : Str) :: ws) (ext_tl (txt_beg qo.pos)) (by simp) (fun y hy => (al3 y hy).nos)]
        exact law_bad (xs := []) (b := initA) (by decide) rfl (part_no (by decide +kernel) (by decide +kernel) (by rintro ⟨e, _⟩; revert e; decide +kernel))
      have pt13 := (pt11.same s12).same s13
      walk_at "gw"
      refine g_seqK (fun σ' H' => σ' = [some (.ref ls), some (.ref p), some (.ref lw), some (.str (txt ws)), some (.ref q0), o1] ∧ Pt p l H5 H') ?_ ?_
      · rintro σ' H15 ⟨rfl, pt15⟩
        have h15 := pt15.at h5 hlp
        walk_at "gg"
        refine ⟨txt ws, rfl, tsz, tasc, tlaw, fun H16 s16 => ?_⟩
        have pt16 := pt15.same s16
        have h16 := s16 _ _ h15
        have hq16 := pt16.at hq nq
        have ht16 := pt16.at ht ntp
        walk_at "gg"
        refine g_get hq16 (cl_Question T) (na_Question_words T) rfl ?_
        walk_at "gg"
        refine g_tupL (.inl (.inl h16)) fun u hu => ?_
        walk_at "gg"
        refine g_eqTS (.inl (.inl (by rw [upd_ne (ne_of_none ht16 hu)]; exact ht16))) (.inl (.inl upd_same)) (fun x hx => (al x hx).asc) (fun x hx => (al x hx).asc) ?_
        rw [decide_eq_true rfl]
        exact q _
      · intro N hN
        walk_at "gg"
        refine ⟨p, l, 4, rfl, pt13.pot, by decide, by decide, fun r4 H14 hr4 pt14 => ?_⟩
        have pt15 := pt13.trans pt14
        walk_at "gg"
        refine g_ite (fun c => ?_) (fun c => ?_)
        · walk_at "gg"
          refine ⟨p, l, rfl, pt15.pot, fun H15 pt16 => ?_⟩
          walk_at "gg"
          exact hN _ _ ⟨rfl, pt15.trans pt16⟩
        · walk_at "gg"
          exact hN _ _ ⟨rfl, pt15⟩
  · have := lj.fn tlaw
    omega
theorem ok_law (T : Tx fxL fnL K mg) {f : Addr} {fd : FuncData} (F : FunD K "law" "law" (defArgs s_law) (defBody s_law) (defScope s_law) [] [] f fd) : FnOk P w K mg base (L2.CX P w) 70 f fd ["script"] (spLaw K) := by
  refine F.ok sc_law (fun vs H Q E h => ?_) (fun cdv A outer s H vs Q E hr h => ?_)
  · obtain ⟨ls, xs, rfl, _⟩ := h
    rfl
  · obtain ⟨ls, xs, rfl, hls, q⟩ := h
    exact law_step f A outer s cdv T H Q E ls xs hls q hr
end
end My
namespace Go
open PySem PySem.Spec PyProof.Rows L2
/-- a law's end: the written part is told by F, what is let out by CX -/
theorem walk_ofEC {l : PySem.W.OpenLaw} {n k : Nat} {q : Program} {loose : List Str} {XP : (Str → Option Value) → Heap → Prop} {YP : World → Heap → Prop} {d : DefRec} {CX : World → CXT} {x : Str}
    (hn : l.most = some n) (hn2 : n ≤ sizeLine) (hdf : d.params.defaults = []) (hr : Room k callerA)
    (F : ∀ (w : World) (mg : Str → Option Value) (fa : Addr) (h : Heap), YP w h → h.Ns mainGlobals mg → mg d.name = some (.ref fa) →
      ∃ (K : PySem.W.Frag) (fd : FuncData) (sp : Sp), K.In h ∧ (∀ (s : Shared) (u : Value), BindsTo s fd ⟨[u], []⟩ [(x, u)]) ∧
        (∀ (H : Hp) (a : Addr) (ns : List Int), ns.length ≤ n → (∀ z ∈ ns, Builtin.Int.intBits z ≤ 1048576) → Only H → SqL K H a (ns.map V.int) → sp [.ref a] H (fun v _ => v = .bl true) fun _ _ _ => False) ∧
        ∀ base : Heap, K.In base → base.Ns mainGlobals mg → FnOk l.prog w K mg base (CX w) k fa fd [x] sp)
    (hCX : ∀ (w : World) (H : Hp) (s : Shared) (e : Value) (s' : Shared), CX w [] H s (fun _ _ _ => False) e s' → False) :
    PySem.W.WalkO q loose XP YP l.row.toRowW d [] (fun f vs => PySem.call f vs) := by
  refine Att.attach_callB hn hdf fun w s₀ s₁ mg mb fa o pm cd doc a vs ns G Y ho hd hcd hmg hobj hints hlen hbits hg => ?_
  obtain ⟨K, fd, sp, KX, hb, hsp, hF⟩ := F w mg fa _ Y G.T.g hmg
  exact law_call KX G.T.g G.T.b G.T.builtins G.T.nolimit hg hobj hints (Nat.le_trans hlen hn2) hr hF hb (fun H hO hS => hsp H a ns hlen hbits hO hS) fun H e s' => hCX w H s₁ e s'
theorem CX_none {P : Program} {w : World} {outer : List Env} {H : Hp} {s s' : Shared} {e : Value} (h : L2.CX P w outer H s (fun _ _ _ => False) e s') : False := by
  obtain ⟨a, B, H', cls, d, _, _, _, _, _, _, _, z⟩ := h
  exact z
end Go
namespace My
open PySem PySem.Spec PyProof.Rows L2 He He5 Go
theorem facts {w : World} {K : PySem.W.Frag} {h : Heap} {mg : Str → Option Value} {fa : Addr} (X : K.In h) (G : h.Ns mainGlobals mg) (hfa : mg ("law" : Str) = some (.ref fa)) (c : SaysM fxL fnL K) :
    ∃ (fd : FuncData), (∀ (s : Shared) (v : Value), BindsTo s fd ⟨[v], []⟩ [("script", v)]) ∧ ∀ base : Heap, K.In base → base.Ns mainGlobals mg → FnOk R.prog w K mg base (L2.CX R.prog w) 70 fa fd ["script"] (spLaw K) := by
  have T : Tx fxL fnL K mg := ⟨c, h, X, G⟩
  obtain ⟨fd, F⟩ := F_law T
  have e := hfa.symm.trans (gm_law T)
  cases e
  have b := FunD.bindsA (ps := ["script"]) F fun _ _ _ _ _ _ us hl => match us, hl with | [_], _ => rfl
  exact ⟨fd, fun s v => b s [v] rfl, fun base _ _ => ok_law T F⟩
end My
open PySem PySem.W PySem.Calls PyProof.Rows
theorem PySem.Challenge.cw_fewcarry_k86_question_forms_holds : PySem.Challenge.rw_fewcarry_k86_question_forms.Holds := by
  w_on; o_law
  refine HandSHeadRun.head_imp (r := OpenLaw.row PySem.Challenge.rw_fewcarry_k86_question_forms) (q := My.qv) (H := My.hk) (ob := My.ob) (M := 12000) (loose := My.names) (d := HandSHeadRun.topDef (OpenLaw.row PySem.Challenge.rw_fewcarry_k86_question_forms).prog 86) (kwd := []) My.ob_eq My.run
    (by kernel_rfl) (by kernel_rfl) (by kernel_rfl) (by rfl) (by first | assumption | decide +kernel) (by decide +kernel) ⟨rfl, rfl, rfl, rfl, rfl, by decide +kernel⟩ ?hw ?hc
  case hw => w_witness2
  case hc =>
    refine Go.walk_ofEC (l := PySem.Challenge.rw_fewcarry_k86_question_forms) (n := 63) (k := 70) (x := "script") (CX := fun w => L2.CX My.R.prog w) rfl (by decide) (by kernel_rfl) ⟨rfl, by decide, by decide⟩ ?F (fun w H s e s' z => Go.CX_none z)
    intro w mg fa h Y G hmg0
    obtain ⟨K, KX, c⟩ := Y
    have hmg : mg ("law" : PySem.Str) = some (.ref fa) := by
      have e : (HandSHeadRun.topDef (OpenLaw.row PySem.Challenge.rw_fewcarry_k86_question_forms).prog 86).name = ("law" : PySem.Str) := by kernel_rfl
      rw [← e]
      exact hmg0
    obtain ⟨fd, hb, hF⟩ := My.facts (w := w) KX G hmg c
    exact ⟨K, fd, My.spLaw K, KX, hb, fun H a ns hl _ _ hS => ⟨a, ns, rfl, hS, fun _ => rfl⟩, hF⟩
