import PyProof.Rows.All
import Wide.All
import OpenK.AllK
import Wide.FinOn
import HandS.ForMost
import HandS.ForExc
import HandS.Flow
import HandS.Wide
import HandS.WideBits
import HandS.IsInst
import HandS.ExcInit
import HandS.ExcField
import HandS.ExcIs
import HandS.TryMany
import HandS.SetKeys
import HandS.More
import HandS.Deep
import HandS.TupSets
import HandS.SortRule
import HandS.SortInts
import HandS.Walk
import HandS.RevTup
import HandS.Rev
import HandS.Conv
import HandS.WordsDict
import HandS.Style
import HandS.HeadHook2
import HandS.DictTup
import HandS.SortKw
import KE.DataMinMax
import HandS.HotCalls
import HandS.SuiteRaise
import HandS.SetFor
import HandS.Strs
import HandS.ExcValue
import HandS.Head0
import HandS.Head1
import HandS.Head2
import HandS.HeadEnd
import HandS.HeadHook1
import HandS.Lambda
import HandS.EndTab
import PySem.Challenge.RW_wornpages_k26_order
set_option Elab.async false
set_option linter.all false
set_option maxRecDepth 100000
set_option maxHeartbeats 4000000
/-! Kit: unified operators, method calls by the receiver's class, and step lemmas for readings. -/
namespace Kit
open PySem PySem.Spec PyProof.Rows L2
section
variable {X : Cx}
/-! ### unified operators -/
abbrev rStrAdd : R2 := fun x y H Q => ∃ i j, x = .str i ∧ y = .str j ∧ i.length + j.length ≤ sizeLine ∧ Q (.str (i ++ j)) H
def uAdd (K : PySem.W.Frag) : R2 := fun x y H Q => rI0 (fun i j => .int (i + j)) x y H Q ∨ (rStrAdd x y H Q ∨ (rCat x y H Q ∨ rCatT K x y H Q))
theorem op_uAdd : OpR X (binaryOp .Add) (uAdd X.K) := op_add.or (op_add_str.or (op_cat.or op_catT))
def uMul : R2 := fun x y H Q => rI CMul (fun i j => .int (i * j)) x y H Q ∨ (rRep x y H Q ∨ rI CMulW (fun i j => .int (i * j)) x y H Q)
theorem op_uMul : OpR X (binaryOp .Mult) uMul := op_mul.or (op_rep.or op_mulW)
def uShl : R2 := rI CShl fun i j => .int (i * 2 ^ j.toNat)
def uEq (K : PySem.W.Frag) : R2 := fun x y H Q => rEq x y H Q ∨ rEqD K x y H Q
theorem op_uEq (hu : X.A.units + 64 < cLine) : OpR X (compareOp .Eq) (uEq X.K) := op_eq.or (op_eqD hu)
def uNe (K : PySem.W.Frag) : R2 := fun x y H Q => rNe x y H Q ∨ rNeD K x y H Q
theorem op_uNe (hu : X.A.units + 64 < cLine) : OpR X (compareOp .NotEq) (uNe X.K) := op_ne.or (op_neD hu)
abbrev rLtI : R2 := rI0 fun i j => .bl (decide (i < j))
def uLt : R2 := rLtI
theorem op_uLt : OpR X (compareOp .Lt) uLt := op_lt
def uIn (K : PySem.W.Frag) : R2 := rIn K false
def uNotIn (K : PySem.W.Frag) : R2 := rIn K true
abbrev rIsNon : R2 := fun x y H Q => y = .non ∧ Q (.bl (decide (x = .non))) H
abbrev rIsNotNon : R2 := fun x y H Q => y = .non ∧ Q (.bl (!decide (x = .non))) H
def uIs : R2 := fun x y H Q => rIsNon x y H Q ∨ rIsB x y H Q
def uIsNot : R2 := fun x y H Q => rIsNotNon x y H Q ∨ rNotB x y H Q
/-! ### calls -/
theorem passL2 : ∀ σ, PassesAt (L2.CX X.prog X.w) X σ ((fun _ => E0) σ) := fun _ _ _ _ _ _ _ h => by
  obtain ⟨_, _, _, _, _, _, _, _, _, _, _, _, z⟩ := h
  exact z.elim
/-- a method of a class, by what it promises -/
structure MO (P : Program) (w : World) (K : PySem.W.Frag) (mg : Str → Option Value) (base : Heap) (CX : CXT) (n : Nat) (C : Addr) (m : Str) (sp : Sp) : Prop where
  ex : ∃ f fd ps, Cls K C ∧ Meth K C m f ∧ FnOk P w K mg base CX n f fd ps sp ∧ Binds K fd ps []
variable {CX : CXT} {k : Nat} {f C : Addr} {fd : FuncData} {ps : List Str} {sp : Sp} {dvs : List V} {ds : List Value} {E : L2.St → XK} {x m : Str} {p pos apos : Pos} {e o : Expr} {es : List Expr} {ta : TE} {t : TA}
/-- o.m(..), by the class that o has -/
def mtK (P : Program) (w : World) (K : PySem.W.Frag) (mg : Str → Option Value) (base : Heap) (CX : CXT) (n : Nat) (m : Str) (E : XK) (σ : L2.St) (t : TA) (Q : VK) : V → Hp → Prop := fun x H1 => ∃ a C dx fs sp, x = .ref a ∧ H1 a = some (.ins C dx fs) ∧ fs.lookup m = none ∧
  MO P w K mg base CX n C m sp ∧ t σ H1 fun vs H2 => sp (x :: vs) H2 Q E
def tMethD (P : Program) (w : World) (K : PySem.W.Frag) (mg : Str → Option Value) (base : Heap) (CX : CXT) (n : Nat) (m : Str) (E : L2.St → XK) (ta : TE) (t : TA) : TE := fun σ H Q => ta σ H (mtK P w K mg base CX n m (E σ) σ t Q)
theorem pe_methD {pl : Sem Bool} (he : PE X o ta) (hr : Room k X.A) (hx : ∀ σ, PassesAt CX X σ (E σ)) (ha : PA X (e :: es) t)
    (hst : starEach (e :: es) X.env = (false, eval e X.env) :: starEach es X.env := by rfl) (hpl : (backTo pos (starEach es X.env)).any (·.1) = false := by rfl)
    (ht : eval (.Call (.Attribute o m apos) (e :: es) [] pos) X.env = (do
      let ov ← eval o X.env
      standAt apos.atName
      let (f, first) ← holding [ov] (getMethod ov m pl)
      callWith pos f first (backTo pos (starEach (e :: es) X.env)) (backToKw pos (keywordEach [] X.env))) := by rfl) :
    PE X (.Call (.Attribute o m apos) (e :: es) [] pos) (tMethD X.prog X.w X.K X.mg X.base CX k m E ta t) := by
  refine ⟨fun pins s σ H Q I h => ?_⟩
  refine PySem.W.methodCall_KW (pl := pl) (thn (he.run pins s σ H _ I h) fun u s1 ⟨x, H1, I1, rx, a, C, dx, fs, sp, ex, ea, l, mo, q⟩ => ?_) ht
  subst ex
  obtain rfl : u = Value.ref a := rx
  obtain ⟨f, fd, ps, c, hm, F, hb⟩ := mo.ex
  refine getmeth_ok I1 ea c hm l ?_
  refine PySem.W.callWith_K (first := [.ref a]) (h₀ := X.base) I.ok.mod.kin hm.kp (thn (ha.run pos pins s1 σ H1 _ I1 q) fun us s2 ⟨vs, H2, I2, r, q2⟩ => ⟨I2.kIn, ?_⟩) hst hpl
  exact run_fnS (us := .ref a :: us) (vs := .ref a :: vs) F hr hb (hx σ) I2 (.cons rfl r) q2
/-- C(..), what is raised at the slots -/
def tMakeS (C : Addr) (sp : Sp) (dvs : List V) (E : L2.St → XK) (t : TA) : TE := fun σ H Q => t σ H fun vs H1 => ∀ x dx, H1 x = none → H1 dx = none → dx ≠ x →
  sp (.ref x :: (vs ++ dvs)) (upd (upd H1 dx (.own x)) x (.ins C dx [])) (fun v H2 => v = .non ∧ Q (.ref x) H2) (E σ)
end
section
variable {X : Cx} {CX : CXT} {k : Nat} {f C : Addr} {fd : FuncData} {ps : List Str} {sp : Sp} {dvs : List V} {ds : List Value} {E : L2.St → XK} {x : Str} {p pos : Pos} {e : Expr} {es : List Expr} {t : TA}
/-- a class without an own __init__ -/
structure Mk0 (K : PySem.W.Frag) (C : Addr) : Prop where
  makes : PySem.W.makesIn K C = true
  init : PySem.W.findIn K (.ref C) "__init__" = some (some (.builtin "object.__init__"))
  kp : PySem.W.keepIn K (.ref C) = true
theorem run_make0 {pins : List (Addr × Obj)} {σ : L2.St} {H : Hp} {s : Shared} {Q : VK} (M : Mk0 X.K C) (I : Inv X pins σ H s)
    (h : ∀ x dx, H x = none → H dx = none → dx ≠ x → Q (.ref x) (upd (upd H dx (.own x)) x (.ins C dx []))) : wpAny (model X.prog X.w) X.A (call (.ref C) []) (EP X pins σ Q) X.xe s := by
  have hq := h (s.heap.objs.size + 1) s.heap.objs.size (I.hok.fresh (Nat.le_succ _)) (I.hok.fresh (Nat.le_refl _)) (Nat.ne_of_lt (Nat.lt_succ_self _))
  have I2 := Inv.made (C := C) I
  have KX := I.kIn
  have Y := PySem.W.makes_of (M := model X.prog X.w) KX M.makes
  obtain ⟨hh, g, d, t, os⟩ := s
  refine wpAny_call (PySem.W.make_core Y (PySem.W.looks_findIn KX M.init) (fun self => PySem.W.Looks.of_pure (PySem.W.oi_bind self)) (.inr ⟨rfl, rfl⟩) ?_)
  have e1 : ((hh.push PySem.W.emptyDict).push (PySem.W.instObj C hh.objs.size)).get? (hh.objs.size + 1) = some (PySem.W.instObj C hh.objs.size) := by heap_get
  have t1 : PySem.W.Looks (model X.prog X.w) ((hh.push PySem.W.emptyDict).push (PySem.W.instObj C hh.objs.size)) (typeOf (.ref (hh.objs.size + 1))) (.ref C) := (PySem.W.Looks.ld e1).andThen .now
  have t2 : PySem.W.Looks (model X.prog X.w) ((hh.push PySem.W.emptyDict).push (PySem.W.instObj C hh.objs.size)) (isInstance (.ref (hh.objs.size + 1)) (.type "object")) true :=
    t1.andThen (Y.top.keeps fun b o e => Heap.get?_push_of_some _ (Heap.get?_push_of_some _ e))
  refine codeAny_call_builtin PySem.W.oi_plain PySem.W.entry_oi (@PySem.W.check_slot (model X.prog X.w) _ _ _ "object.__init__" "object" "__init__" (.ref (hh.objs.size + 1)) [] [] _ PySem.W.oi_kind PySem.W.oi_split t2 (PySem.W.oi_args (.ref (hh.objs.size + 1))) ?_)
  rw [PySem.W.oi_run]
  exact wpAny_pure (And.intro rfl ⟨V.ref (hh.objs.size + 1), _, I2, rfl, hq⟩)
def tMake0 (C : Addr) : TE := fun _ H Q => ∀ x dx, H x = none → H dx = none → dx ≠ x → Q (.ref x) (upd (upd H dx (.own x)) x (.ins C dx []))
theorem pe_mkN (M : Mk0 X.K C) (hg : Gl X x) (hm : X.mg x = some (.ref C)) (hdb : (x == ("__debug__" : Str)) = false := by decide) : PE X (.Call (.Name x p) [] [] pos) (tMake0 C) := by
  refine ⟨fun pins s σ H Q I h => ?_⟩
  refine wpAny_Call_Name_kw (ld_glob I hg hm ?_ hdb)
  exact PySem.W.callWith_K0 I.kIn M.kp (run_make0 M I h)
theorem run_makeS {pins : List (Addr × Obj)} {σ : L2.St} {H : Hp} {s : Shared} {Q : VK} {us : List Value} {vs : List V} (M : Mk X.K C f) (F : FnOk X.prog X.w X.K X.mg X.base CX k f fd ps sp) (hr : Room (k + 1) X.A) (hb : Binds X.K fd ps ds) (hd : Vals dvs ds)
    (hx : ∀ σ, PassesAt CX X σ (E σ)) (I : Inv X pins σ H s) (r : Vals vs us)
    (h : ∀ x dx, H x = none → H dx = none → dx ≠ x → sp (.ref x :: (vs ++ dvs)) (upd (upd H dx (.own x)) x (.ins C dx [])) (fun v H2 => v = .non ∧ Q (.ref x) H2) (E σ)) :
    wpAny (model X.prog X.w) X.A (call (.ref C) us) (EP X pins σ Q) X.xe s := by
  have hq := h (s.heap.objs.size + 1) s.heap.objs.size (I.hok.fresh (Nat.le_succ _)) (I.hok.fresh (Nat.le_refl _)) (Nat.ne_of_lt (Nat.lt_succ_self _))
  have I2 := Inv.made (C := C) I
  have r2 : Vals (V.ref (s.heap.objs.size + 1) :: (vs ++ dvs)) (Value.ref (s.heap.objs.size + 1) :: (us ++ ds)) := .cons rfl (r.append hd)
  have hl : (Value.ref (s.heap.objs.size + 1) :: us ++ ds).length = ps.length := by
    have e := r2.length
    rw [F.len _ _ _ _ hq] at e
    exact e.symm
  refine wpAny_call (make_map (f := f) I.kIn M.makes M.init (beq_iff_eq.mp M.fn) (codeAny_mono (F.run _ X.stack _ _ ⟨Value.ref (s.heap.objs.size + 1) :: us, []⟩ (Value.ref (s.heap.objs.size + 1) :: (us ++ ds)) _ _ (E σ) (hr.make C us [])
    (I2.env0.make C us []) (hb _ (Value.ref (s.heap.objs.size + 1) :: us) I2.kIn hl) r2 hq) fun r s' hq' => ?_))
  cases r with
  | error e => exact hx σ pins _ _ e s' I2 hq'
  | ok fl =>
    cases fl with
    | ret u =>
      obtain ⟨v, H', I3, rv, ev, q3⟩ := I2.after hq'
      subst ev
      exact ⟨rv, ⟨V.ref (s.heap.objs.size + 1), H', I3, rfl, q3⟩⟩
    | next => exact False.elim hq'
    | brk => exact False.elim hq'
    | cont => exact False.elim hq'
theorem pe_mkS (M : Mk X.K C f) (F : FnOk X.prog X.w X.K X.mg X.base CX k f fd ps sp) (hr : Room (k + 1) X.A) (hg : Gl X x) (hm : X.mg x = some (.ref C)) (hb : Binds X.K fd ps ds) (hd : Vals dvs ds) (hx : ∀ σ, PassesAt CX X σ (E σ))
    (ha : PA X (e :: es) t) (hdb : (x == ("__debug__" : Str)) = false := by decide) (he : starEach (e :: es) X.env = (false, eval e X.env) :: starEach es X.env := by rfl) (hpl : (backTo pos (starEach es X.env)).any (·.1) = false := by rfl) :
    PE X (.Call (.Name x p) (e :: es) [] pos) (tMakeS C sp dvs E t) := by
  refine ⟨fun pins s σ H Q I h => ?_⟩
  refine wpAny_Call_Name_kw (ld_glob I hg hm ?_ hdb)
  refine PySem.W.callWith_K (h₀ := X.base) I.ok.mod.kin M.kp (thn (ha.run pos pins s σ H _ I h) fun us s1 ⟨vs, H1, I1, r, q⟩ => ⟨I1.kIn, ?_⟩) he hpl
  exact run_makeS M F hr hb hd hx I1 r q
end
/-! ### steps: statements -/
section
variable {σ : L2.St} {H H1 : Hp} {K : PySem.W.Frag} {D : Ends} {t u : TS} {te ta tb : TE} {c : TT} {i : Nat} {v x y : V} {Q : VK} {QB : Bool → Hp → Prop} {A B : Prop} {b : Bool}
theorem x_seq (h : t { D with nx := u D } σ H) : tSeq t u D σ H := h
theorem x_seqA {g : TG} (h : tAsg te g { D with nx := u D } σ H) : tSeq (tAsg te g) u D σ H := h
theorem x_seqD (h : tDrop te { D with nx := u D } σ H) : tSeq (tDrop te) u D σ H := h
theorem x_seqF {f : Str} (h : sFld K ta te f { D with nx := u D } σ H) : tSeq (sFld K ta te f) u D σ H := h
theorem x_seqFA {f : Str} {rd : V → V → Hp → VK → Prop} (h : sFldAug K ta te rd f { D with nx := u D } σ H) : tSeq (sFldAug K ta te rd f) u D σ H := h
theorem x_seqAug {ti : TIp} (h : tAug i te ti { D with nx := u D } σ H) : tSeq (tAug i te ti) u D σ H := h
theorem x_next (q : D.nx σ H) : tNext D σ H := q
theorem x_asg {g : TG} (h : te σ H fun x H1 => g x σ H1 D.nx) : tAsg te g D σ H := h
theorem x_gname {QS : L2.St → Hp → Prop} (q : QS (σ.set i (some v)) H) : gName i v σ H QS := q
theorem x_ret (h : te σ H D.rt) : tRet te D σ H := h
theorem x_retN (h : D.rt .non H) : tRetN D σ H := h
theorem x_drop (h : te σ H fun _ H1 => D.nx σ H1) : tDrop te D σ H := h
theorem x_if (h : c σ H fun b H1 => if b = true then t D σ H1 else u D σ H1) : tIfS c t u D σ H := h
theorem x_iteT (h : A) : if true = true then A else B := iteT h
theorem x_iteF (h : B) : if false = true then A else B := iteF h
theorem x_iteD {p : Prop} [Decidable p] (h1 : p → A) (h2 : ¬ p → B) : if decide p = true then A else B := by
  by_cases h : p
  · rw [decide_eq_true h]; exact iteT (h1 h)
  · rw [decide_eq_false h]; exact iteF (h2 h)
theorem x_iteN (h : if b = true then B else A) : if (!b) = true then A else B := by
  cases b with
  | true => exact h
  | false => exact h
theorem x_iteB (h1 : b = true → A) (h2 : b = false → B) : if b = true then A else B := by
  cases b with
  | true => exact iteT (h1 rfl)
  | false => exact iteF (h2 rfl)
/-- ways that join: J holds at the end of t on every way -/
theorem x_join (J : L2.St → Hp → Prop) (h1 : ∀ R : L2.St → Hp → Prop, (∀ σ' H', J σ' H' → R σ' H') → t { D with nx := R } σ H) (h2 : ∀ σ' H', J σ' H' → u D σ' H') : tSeq t u D σ H := h1 (u D) h2
/-! ### steps: expressions -/
theorem x_var (h : σ[i]? = some (some v)) (q : Q v H) : tVar i σ H Q := ⟨v, h, q⟩
theorem x_c (q : Q v H) : tC v σ H Q := q
theorem x_op {r : R2} (h : ta σ H fun x H1 => tb σ H1 fun y H2 => r x y H2 Q) : tOp r ta tb σ H Q := h
theorem x_un {r : V → Hp → VK → Prop} (h : ta σ H fun x H1 => r x H1 Q) : tUn r ta σ H Q := h
theorem x_cb {r : List V → Hp → VK → Prop} {t : TA} (h : t σ H fun vs H1 => r vs H1 Q) : tCB r t σ H Q := h
theorem x_nil {QA : List V → Hp → Prop} (q : QA [] H) : tNil σ H QA := q
theorem x_cons {QA : List V → Hp → Prop} {tr : TA} (h : ta σ H fun x H1 => tr σ H1 fun xs H2 => QA (x :: xs) H2) : tCons ta tr σ H QA := h
theorem x_callS {sp : Sp} {E : L2.St → XK} {t : TA} (h : t σ H fun vs H1 => sp vs H1 Q (E σ)) : tCallS sp E t σ H Q := h
theorem x_ifExp (h : c σ H fun c H1 => if c = true then ta σ H1 Q else tb σ H1 Q) : tIf c ta tb σ H Q := h
theorem x_test (h : te σ H fun x H' => ∃ k, x = .bl k ∧ QB k H') : tTest te σ H QB := h
theorem x_tB (h : te σ H fun x H' => ∃ k, x = .bl k ∧ QB k H') : tB te σ H QB := h
theorem x_and {t u : TT} (h : t σ H fun c H1 => if c = true then u σ H1 QB else QB false H1) : tAnd t u σ H QB := h
theorem x_or {t u : TT} (h : t σ H fun c H1 => if c = true then QB true H1 else u σ H1 QB) : tOr t u σ H QB := h
theorem x_not {t : TT} (h : t σ H fun c H1 => QB (!c) H1) : tNot t σ H QB := h
theorem x_andT (h : ta σ H fun x H1 => ∃ k, TruV K x H1 k ∧ if k = true then tb σ H1 Q else Q x H1) : tAndT K ta tb σ H Q := h
theorem x_orT (h : ta σ H fun x H1 => ∃ k, TruV K x H1 k ∧ if k = true then Q x H1 else tb σ H1 Q) : tOrT K ta tb σ H Q := h
theorem x_notT (h : ta σ H fun x H1 => ∃ k, TruV K x H1 k ∧ Q (.bl (!k)) H1) : tNotT K ta σ H Q := h
theorem x_truBl {P : Bool → Prop} (h : P b) : ∃ k, TruV K (.bl b) H k ∧ P k := ⟨b, rfl, h⟩
theorem x_isbl {P : Bool → Prop} (h : P b) : ∃ k, V.bl b = .bl k ∧ P k := ⟨b, rfl, h⟩
theorem x_chain {r r' : R2} {tc : TE} (h : ta σ H fun x H1 => tb σ H1 fun y H2 => r x y H2 fun z H3 => ∃ k, z = .bl k ∧ if k = true then tc σ H3 fun z' H4 => r' y z' H4 Q else Q (.bl false) H3) : tChain r r' ta tb tc σ H Q := h
/-! ### steps: operators on values -/
variable {m n : Int} {s1 s2 : Str}
theorem x_addI (q : Q (.int (m + n)) H) : uAdd K (.int m) (.int n) H Q := .inl ⟨m, n, rfl, rfl, q⟩
theorem x_addS (q : Q (.str (s1 ++ s2)) H) (h : s1.length + s2.length ≤ sizeLine) : uAdd K (.str s1) (.str s2) H Q := .inr (.inl ⟨s1, s2, rfl, rfl, h, q⟩)
theorem x_I0 {g : Int → Int → V} (q : Q (g m n) H) : rI0 g (.int m) (.int n) H Q := ⟨m, n, rfl, rfl, q⟩
theorem x_I {C : Int → Int → Prop} {g : Int → Int → V} (q : Q (g m n) H) (h : C m n) : rI C g (.int m) (.int n) H Q := ⟨m, n, rfl, rfl, h, q⟩
theorem x_pow {g : Int → Int → V} (q : Q (g m n) H) (h : CPow m n) : rI CPow g (.int m) (.int n) H Q := ⟨m, n, rfl, rfl, h, q⟩
theorem x_lt (q : Q (.bl (decide (m < n))) H) : uLt (.int m) (.int n) H Q := ⟨m, n, rfl, rfl, q⟩
theorem x_mulI (q : Q (.int (m * n)) H) (h : CMul m n) : uMul (.int m) (.int n) H Q := .inl ⟨m, n, rfl, rfl, h, q⟩
theorem x_mulU (q : Q (.int (m * n)) H) (h : m.natAbs < 2 ^ 250 ∧ n.natAbs < 2 ^ 250) : uMul (.int m) (.int n) H Q := .inr (.inr ⟨m, n, rfl, rfl, wide_mul h.1 h.2 (by decide) (by decide) (by decide), q⟩)
theorem same_upd {o : HO} {p : Addr} (h : H p = none) : Same H (upd H p o) := fun b u e => by rw [upd_ne (ne_of_none e h)]; exact e
theorem same_updS {H H' : Hp} {o : HO} {p : Addr} (s : Same H H') (h : H p = none) : Same H (upd H' p o) := fun b u e => by rw [upd_ne (ne_of_none e h)]; exact s _ _ e
theorem cutV_from {xs : List V} (k : Nat) : cutV xs (some (k : Int)) none = xs.drop k := by
  unfold cutV
  rw [HT.sIx_nat, HT.sIx_none]
  by_cases h : k ≤ xs.length
  · rw [Nat.min_eq_left h, List.take_of_length_le (by rw [List.length_drop]; exact Nat.le_refl _)]
  · rw [Nat.min_eq_right (by omega), List.drop_of_length_le (Nat.le_refl _), List.drop_of_length_le (by omega), List.take_nil]
/-- a new object: what is asked of it -/
abbrev New (H : Hp) (Q : VK) (o : HO) : Prop := ∀ p H1, H p = none → Same H H1 → H1 p = some o → Q (.ref p) H1
theorem New.mk {o : HO} (h : New H Q o) : ∀ p, H p = none → Q (.ref p) (upd H p o) := fun p hp => h p _ hp (same_upd hp) upd_same
def nwL (Q : VK) : List V → Hp → Prop := fun xs H1 => xs.length ≤ sizeLine ∧ ∀ p, H1 p = none → Q (.ref p) (upd H1 p (.lst xs))
def nwT (Q : VK) : List V → Hp → Prop := fun xs H1 => xs.length ≤ sizeLine ∧ ∀ p, H1 p = none → Q (.ref p) (upd H1 p (.tup xs))
theorem x_nwL {xs : List V} (h : New H Q (.lst xs)) (hl : xs.length ≤ sizeLine) : nwL Q xs H := ⟨hl, h.mk⟩
theorem x_nwT {xs : List V} (h : New H Q (.tup xs)) (hl : xs.length ≤ sizeLine) : nwT Q xs H := ⟨hl, h.mk⟩
theorem x_addL {l l' : Addr} {xs ys : List V} (h1 : H l = some (.lst xs)) (h2 : H l' = some (.lst ys)) (q : New H Q (.lst (xs ++ ys))) (hl : xs.length + ys.length ≤ sizeLine) : uAdd K (.ref l) (.ref l') H Q :=
  .inr (.inr (.inl ⟨l, l', xs, ys, rfl, rfl, h1, h2, hl, q.mk⟩))
theorem x_rep {l : Addr} {xs : List V} (h1 : H l = some (.lst xs)) (q : New H Q (.lst (List.replicate n.toNat xs).flatten)) (h2 : n < 2 ^ 63) (h0 : 0 ≤ n) (hl : xs.length * n.toNat ≤ sizeLine) : uMul (.ref l) (.int n) H Q :=
  .inr (.inl ⟨l, n, xs, rfl, rfl, h1, Int.le_trans (by decide) h0, h2, hl, q.mk⟩)
theorem flat_rep {v : V} : ∀ n : Nat, (List.replicate n [v]).flatten = List.replicate n v
  | 0 => rfl
  | n + 1 => by rw [List.replicate_succ, List.flatten_cons, flat_rep n]; rfl
/-- [v] * n -/
theorem x_rep1 {l : Addr} {v : V} (h1 : H l = some (.lst [v])) (q : New H Q (.lst (List.replicate n.toNat v))) (h : 0 ≤ n ∧ n ≤ 1000000) : uMul (.ref l) (.int n) H Q :=
  x_rep h1 (by rw [flat_rep]; exact q) (by omega) h.1 (by rw [List.length_singleton, Nat.one_mul]; exact Nat.le_trans (show n.toNat ≤ 1000000 by omega) (by decide))
theorem cdivW {i j : Int} (h : 0 < j) (h2 : j < 10 ^ 60) : CDivW i j := by
  refine wide_div (b := 200) h ?_ (by decide) (by decide)
  have : (2:Nat) ^ 200 = 1606938044258990275541962092341162602522202993782792835301376 := by decide
  omega
theorem x_shl (q : Q (.int (m * 2 ^ n.toNat)) H) (h : CShl m n) : uShl (.int m) (.int n) H Q := ⟨m, n, rfl, rfl, h, q⟩
theorem x_U {g : Int → V} (q : Q (g m) H) : rU g (.int m) H Q := ⟨m, rfl, q⟩
theorem x_eqI (q : Q (.bl (decide (m = n))) H) : uEq K (.int m) (.int n) H Q := .inl ⟨rfl, by rw [dec_int, ← Bool.beq_eq_decide_eq] at *; exact q⟩
theorem x_neI (q : Q (.bl (!decide (m = n))) H) : uNe K (.int m) (.int n) H Q := .inl ⟨rfl, by rw [dec_int, ← Bool.beq_eq_decide_eq] at *; exact q⟩
theorem x_eqB {b c : Bool} (q : Q (.bl (decide (b = c))) H) : uEq K (.bl b) (.bl c) H Q := .inl ⟨rfl, by rw [dec_bl, ← Bool.beq_eq_decide_eq] at *; exact q⟩
theorem x_neB {b c : Bool} (q : Q (.bl (!decide (b = c))) H) : uNe K (.bl b) (.bl c) H Q := .inl ⟨rfl, by rw [dec_bl, ← Bool.beq_eq_decide_eq] at *; exact q⟩
theorem x_eqS (q : Q (.bl (decide (s1 = s2))) H) : uEq K (.str s1) (.str s2) H Q := .inl ⟨rfl, by rw [dec_str] at *; rw [show decide (s1 = s2) = (s1 == s2) from by rw [Bool.beq_eq_decide_eq]] at q; exact q⟩
theorem x_tup {t : TA} (h : t σ H (nwT Q)) : tTup t σ H Q := h
theorem x_lst {t : TA} (h : t σ H (nwL Q)) : tLst t σ H Q := h
/-! ### steps: sequences -/
variable {p : Addr} {xs : List V} {ns : List Int}
theorem atI_getD {α : Type} {xs : List α} {i : Int} (d : α) (h0 : 0 ≤ i) (h1 : i < xs.length) : atI xs i = some (xs.getD i.toNat d) := by
  obtain ⟨j, rfl⟩ : ∃ j : Nat, i = (j : Int) := ⟨i.toNat, by omega⟩
  have hj : j < xs.length := by omega
  exact atI_nat (by simp [hj])
theorem x_ixI (h : SqL K H p (ns.map V.int)) (q : Q (.int (ns.getD n.toNat 0)) H) (h0 : 0 ≤ n) (h1 : n < ns.length) : rIx K (.ref p) (.int n) H Q :=
  .inl ⟨p, _, n, _, rfl, rfl, h, by
    rw [atI_getD (.int 0) h0 (by rw [List.length_map]; exact h1)]
    have hn : n.toNat < ns.length := by omega
    simp [hn], q⟩
theorem x_ixS (h : SqL K H p xs) (ha : atI xs n = some v) (q : Q v H) : rIx K (.ref p) (.int n) H Q := .inl ⟨p, _, n, _, rfl, rfl, h, ha, q⟩
theorem atI_0 {α : Type} {x : α} {xs : List α} : atI (x :: xs) 0 = some x := atI_nat (j := 0) (by simp)
theorem x_ixH (h : SqL K H p (v :: xs)) (q : Q v H) : rIx K (.ref p) (.int 0) H Q := .inl ⟨p, _, 0, _, rfl, rfl, h, atI_0, q⟩
theorem atI_any (n : Nat) (hn : 0 < n) (o : Int) (ho : o = 0 ∨ o = -1) : ∃ i, i < n ∧ ∀ {α : Type} (xs : List α), xs.length = n → atI xs o = xs[i]? := by
  rcases ho with rfl | rfl
  · exact ⟨0, hn, fun xs h => by
      cases xs with
      | nil => simp at h; omega
      | cons x xs => rw [atI_0]; rfl⟩
  · refine ⟨n - 1, by omega, fun xs h => ?_⟩
    unfold atI ixN
    rw [h, if_neg (by decide), if_pos (by omega)]
    show xs[((n : Int) + -1).toNat]? = _
    rw [show ((n : Int) + -1).toNat = n - 1 by omega]
theorem x_ixL (h : SqL K H p xs) (q : Q (xs.getD n.toNat .non) H) (h0 : 0 ≤ n) (h1 : n < xs.length) : rIx K (.ref p) (.int n) H Q :=
  .inl ⟨p, _, n, _, rfl, rfl, h, atI_getD _ h0 h1, q⟩
theorem x_ixT (h : SqT K H p xs) (ha : atI xs n = some v) (q : Q v H) : rIx K (.ref p) (.int n) H Q :=
  .inr (.inl ⟨p, _, n, _, rfl, rfl, h, ha, q⟩)
end
/-! ### data -/
section
variable {X : Cx} {σ : L2.St} {H H' : Hp} {K : PySem.W.Frag} {Q : VK} {x y : V}
theorem cl_all : ∀ ds : List PyData, PyData.canLayAll0 ds = true ↔ ∀ d ∈ ds, PyData.canLay0 d = true
  | [] => by simp [PyData.canLayAll0]
  | d :: ds => by rw [PyData.canLayAll0, Bool.and_eq_true, cl_all ds]; simp
theorem dp_all {k : Nat} : ∀ ds : List PyData, PyData.depthAll ds ≤ k ↔ ∀ d ∈ ds, PyData.depth d ≤ k
  | [] => by simp [PyData.depthAll]
  | d :: ds => by rw [PyData.depthAll, Nat.max_le, dp_all ds]; simp
/-- data of a depth that can be compared -/
def Sh (k : Nat) (d : PyData) : Prop := d.canLay0 = true ∧ d.depth ≤ k
theorem Sh.list {k : Nat} {ds : List PyData} (h : ∀ d ∈ ds, Sh k d) : Sh (k + 1) (.list ds) := ⟨by rw [PyData.canLay0]; exact (cl_all ds).mpr fun d m => (h d m).1, by rw [PyData.depth]; exact Nat.succ_le_succ ((dp_all ds).mpr fun d m => (h d m).2)⟩
theorem Sh.tup {k : Nat} {ds : List PyData} (h : ∀ d ∈ ds, Sh k d) : Sh (k + 1) (.tuple ds) := ⟨by rw [PyData.canLay0]; exact (cl_all ds).mpr fun d m => (h d m).1, by rw [PyData.depth]; exact Nat.succ_le_succ ((dp_all ds).mpr fun d m => (h d m).2)⟩
theorem Sh.int {k : Nat} {n : Int} : Sh k (.int n) := ⟨by simp [PyData.canLay0], by simp [PyData.depth]⟩
theorem Sh.non {k : Nat} : Sh k .none := ⟨by simp [PyData.canLay0], by simp [PyData.depth]⟩
theorem Sh.bl {k : Nat} {b : Bool} : Sh k (.bool b) := ⟨by simp [PyData.canLay0], by simp [PyData.depth]⟩
theorem Sh.str {k : Nat} {s : Str} (h : PyData.strOk s = true) : Sh k (.str s) := ⟨by rw [PyData.canLay0]; exact h, by simp [PyData.depth]⟩
theorem Sh.shaped {k : Nat} {d : PyData} (h : Sh k d) (hk : k ≤ 64) : SeqAt.shaped d = true := by
  unfold SeqAt.shaped
  rw [h.1, decide_eq_true (Nat.le_trans h.2 hk)]
  rfl
theorem Sh.refl {k : Nat} {d : PyData} (h : Sh k d) : PyData.eqv d d = true := SeqAt.eqv_refl d h.1
theorem x_eqD {d e : PyData} (h1 : Dp K H x d) (h2 : Dp K H y e) (s1 : Sh 9 d) (s2 : Sh 9 e) (q : Q (.bl (PyData.eqv d e)) H) : uEq K x y H Q := .inr ⟨d, e, h1, h2, s1.shaped (by decide), s2.shaped (by decide), q⟩
theorem x_neD {d e : PyData} (h1 : Dp K H x d) (h2 : Dp K H y e) (s1 : Sh 9 d) (s2 : Sh 9 e) (q : Q (.bl (!PyData.eqv d e)) H) : uNe K x y H Q := .inr ⟨d, e, h1, h2, s1.shaped (by decide), s2.shaped (by decide), q⟩
/-- the same data -/
theorem x_eqS2 {d : PyData} (h1 : Dp K H x d) (h2 : Dp K H y d) (s1 : Sh 9 d) (q : Q (.bl true) H) : uEq K x y H Q := x_eqD h1 h2 s1 s1 (by rw [s1.refl]; exact q)
theorem x_neS2 {d : PyData} (h1 : Dp K H x d) (h2 : Dp K H y d) (s1 : Sh 9 d) (q : Q (.bl false) H) : uNe K x y H Q := x_neD h1 h2 s1 s1 (by rw [s1.refl]; exact q)
theorem dpAll_of : ∀ {vs : List V} {ds : List PyData}, vs.length = ds.length → (∀ (i : Nat) v d, vs[i]? = some v → ds[i]? = some d → Dp K H v d) → DpAll K H vs ds
  | [], [], _, _ => .nil
  | v :: vs, d :: ds, hl, h => .cons (h 0 v d rfl rfl) (dpAll_of (by simpa using hl) fun i a b h1 h2 => h (i + 1) a b h1 h2)
theorem dpInts : ∀ {ns : List Int}, DpAll K H (ns.map V.int) (ns.map PyData.int)
  | [] => .nil
  | n :: ns => .cons (.int n) dpInts
end
/-! ### loops -/
section
variable {X : Cx} {σ : L2.St} {H : Hp} {K : PySem.W.Frag} {D : Ends} {g : TG} {tb : TS} {tl te : TE} {tt : TT} {ta : TA} {a : Addr} {xs : List V} {Q : VK} {vs : List Nat}
theorem sl_u : SlR X (rSlL X.K) := sl_list
theorem x_slice {to th : TO} {r : V → Option Int → Option Int → Hp → VK → Prop} (h : te σ H fun x H1 => to σ H1 fun l H2 => th σ H2 fun u H3 => r x l u H3 Q) : tSl r te to th σ H Q := h
theorem x_noPart {QO : Option Int → Hp → Prop} (q : QO none H) : tNoPart σ H QO := q
def ptK (QO : Option Int → Hp → Prop) : V → Hp → Prop := fun x H1 => ∃ i, x = .int i ∧ QO (some i) H1
theorem x_part {QO : Option Int → Hp → Prop} (h : te σ H (ptK QO)) : tPart te σ H QO := h
theorem x_ptK {QO : Option Int → Hp → Prop} {i : Int} (q : QO (some i) H) : ptK QO (.int i) H := ⟨i, rfl, q⟩
theorem x_slL {lo hi : Option Int} (h : SqL K H a xs) (q : New H Q (.lst (cutV xs lo hi))) : rSlL K (.ref a) lo hi H Q := ⟨a, xs, rfl, h, q.mk⟩
def loopK (J : It) (g : TG) (tb : TS) (D : Ends) (σ : L2.St) (H1 : Hp) : Prop := ∃ W : Nat → Nat → L2.St → Hp → Prop, (∃ m, W 0 m σ H1) ∧ ∀ i m σ H, W i m σ H →
  (J.stop i H ∧ D.nx σ H) ∨ (J.go i H ∧ ∃ N : L2.St → Hp → Prop, (∀ σ' H', N σ' H' → ∃ m', m' < m ∧ W (i + 1) m' σ' H') ∧ ∀ x H', J.yld i H x H' → g x σ H' fun σ2 H2 => tb { D with nx := N, ct := N, bk := D.nx } σ2 H2)
def frL (K : PySem.W.Frag) (g : TG) (tb : TS) (D : Ends) (σ : L2.St) : V → Hp → Prop := fun x H1 => ∃ a, x = .ref a ∧ (∃ xs, SqL K H1 a xs) ∧ loopK (Itl K a) g tb D σ H1
theorem x_forL (h : tl σ H (frL K g tb D σ)) : tFor (iList K tl) g tb D σ H := h
theorem x_frL (hq : SqL K H a xs) (Pv : Nat → L2.St → Hp → Prop) (h0 : Pv 0 σ H) (hl : ∀ i σ H, i ≤ xs.length → Pv i σ H → SqL K H a xs)
    (hs : ∀ i x σ H, xs[i]? = some x → Pv i σ H → g x σ H fun σ2 H2 => tb { D with nx := Pv (i + 1), ct := Pv (i + 1), bk := D.nx } σ2 H2) (hd : ∀ σ H, Pv xs.length σ H → D.nx σ H) : frL K g tb D σ (.ref a) H :=
  ⟨a, rfl, ⟨_, hq⟩, for_list Pv h0 hl hs hd⟩
def frT (K : PySem.W.Frag) (g : TG) (tb : TS) (D : Ends) (σ : L2.St) : V → Hp → Prop := fun x H1 => ∃ a, x = .ref a ∧ (∃ xs, SqT K H1 a xs) ∧ loopK (Itt K a) g tb D σ H1
theorem x_forT (h : tl σ H (frT K g tb D σ)) : tFor (iTup K tl) g tb D σ H := h
/-! a loop over a list or a tuple -/
def iSeq (K : PySem.W.Frag) (tl : TE) : TI := fun σ H R => tl σ H fun x H1 => ∃ a, x = .ref a ∧ (((∃ xs, SqL K H1 a xs) ∧ R (Itl K a) H1) ∨ ((∃ xs, SqT K H1 a xs) ∧ R (Itt K a) H1))
def frS (K : PySem.W.Frag) (g : TG) (tb : TS) (D : Ends) (σ : L2.St) : V → Hp → Prop := fun x H1 => ∃ a, x = .ref a ∧ (((∃ xs, SqL K H1 a xs) ∧ loopK (Itl K a) g tb D σ H1) ∨ ((∃ xs, SqT K H1 a xs) ∧ loopK (Itt K a) g tb D σ H1))
theorem x_forS (h : tl σ H (frS K g tb D σ)) : tFor (iSeq K tl) g tb D σ H := h
def frR1 (g : TG) (tb : TS) (D : Ends) (σ : L2.St) : List V → Hp → Prop := fun vs H1 => ∃ j : Int, vs = [.int j] ∧ -(2 ^ 62) ≤ j ∧ j < 2 ^ 62 ∧ loopK (Itr 0 j.toNat) g tb D σ H1
theorem x_forR1 (h : ta σ H (frR1 g tb D σ)) : tFor (iRng1 ta) g tb D σ H := h
theorem x_frR1 {j : Int} (b : -(2 ^ 62) ≤ j ∧ j < 2 ^ 62) (Pv : Nat → L2.St → Hp → Prop) (h0 : Pv 0 σ H)
    (hs : ∀ i σ H, i < j.toNat → Pv i σ H → g (.int (0 + i)) σ H fun σ2 H2 => tb { D with nx := Pv (i + 1), ct := Pv (i + 1), bk := D.nx } σ2 H2) (hd : ∀ σ H, Pv j.toNat σ H → D.nx σ H) : frR1 g tb D σ [.int j] H :=
  ⟨j, rfl, b.1, b.2, for_range Pv h0 hs hd⟩
def frR2 (g : TG) (tb : TS) (D : Ends) (σ : L2.St) : List V → Hp → Prop := fun vs H1 => ∃ i j : Int, vs = [.int i, .int j] ∧ (-(2 ^ 62) ≤ i ∧ i < 2 ^ 62 ∧ -(2 ^ 62) ≤ j ∧ j < 2 ^ 62) ∧ loopK (Itr i (j - i).toNat) g tb D σ H1
theorem x_forR2 (h : ta σ H (frR2 g tb D σ)) : tFor (iRng2 ta) g tb D σ H := h
theorem x_frR2 {lo j : Int} (b : -(2 ^ 62) ≤ lo ∧ lo < 2 ^ 62 ∧ -(2 ^ 62) ≤ j ∧ j < 2 ^ 62) (Pv : Nat → L2.St → Hp → Prop) (h0 : Pv 0 σ H)
    (hs : ∀ i σ H, i < (j - lo).toNat → Pv i σ H → g (.int (lo + i)) σ H fun σ2 H2 => tb { D with nx := Pv (i + 1), ct := Pv (i + 1), bk := D.nx } σ2 H2) (hd : ∀ σ H, Pv (j - lo).toNat σ H → D.nx σ H) : frR2 g tb D σ [.int lo, .int j] H :=
  ⟨lo, j, rfl, b, for_range Pv h0 hs hd⟩
theorem x_gtup2 {i j : Nat} {QS : L2.St → Hp → Prop} {x y : V} (h : SqT K H a [x, y]) (q : QS ((σ.set i (some x)).set j (some y)) H) : gTup K 2 (gCons (gName i) (gCons (gName j) gNil)) (.ref a) σ H QS :=
  ⟨a, [x, y], rfl, h, rfl, x, [y], rfl, y, [], rfl, rfl, q⟩
theorem x_glst4 {i j k l : Nat} {QS : L2.St → Hp → Prop} {x y z u : V} (h : SqL K H a [x, y, z, u]) (q : QS ((((σ.set i (some x)).set j (some y)).set k (some z)).set l (some u)) H) : gLst K 4 (gCons (gName i) (gCons (gName j) (gCons (gName k) (gCons (gName l) gNil)))) (.ref a) σ H QS :=
  ⟨a, [x, y, z, u], rfl, h, rfl, x, [y, z, u], rfl, y, [z, u], rfl, z, [u], rfl, u, [], rfl, rfl, q⟩
def frEn (K : PySem.W.Frag) (g : TG) (tb : TS) (D : Ends) (σ : L2.St) : List V → Hp → Prop := fun vs H1 => ∃ a xs, vs = [.ref a] ∧ SqL K H1 a xs ∧ loopK (Ite K a) g tb D σ H1
theorem x_forEn (h : ta σ H (frEn K g tb D σ)) : tFor (iEnum K ta) g tb D σ H := h
def frZ (K : PySem.W.Frag) (g : TG) (tb : TS) (D : Ends) (σ : L2.St) : List V → Hp → Prop := fun vs H1 => ∃ a b xs ys, vs = [.ref a, .ref b] ∧ SqL K H1 a xs ∧ SqL K H1 b ys ∧ loopK (Itz K a b) g tb D σ H1
theorem x_forZ (h : ta σ H (frZ K g tb D σ)) : tFor (iZip K ta) g tb D σ H := h
theorem x_frZ {n1 n2 : Nat} {b : Addr} {ys : List V} (hq : SqL K H a xs) (hq2 : SqL K H b ys) (hxy : xs.length = ys.length) (Pv : Nat → L2.St → Hp → Prop) (h0 : Pv 0 σ H) (hl : ∀ i σ H, Pv i σ H → SqL K H a xs ∧ SqL K H b ys)
    (hs : ∀ i x y σ H H', xs[i]? = some x → ys[i]? = some y → Pv i σ H → Same H H' → tb { D with nx := Pv (i + 1), ct := Pv (i + 1), bk := D.nx } ((σ.set n1 (some x)).set n2 (some y)) H') (hd : ∀ σ H, Pv xs.length σ H → D.nx σ H) :
    frZ K (gTup K 2 (gCons (gName n1) (gCons (gName n2) gNil))) tb D σ [.ref a, .ref b] H := by
  refine ⟨a, b, xs, ys, rfl, hq, hq2, fun i m σ H => m = xs.length - i ∧ i ≤ xs.length ∧ Pv i σ H, ⟨xs.length, rfl, Nat.zero_le _, h0⟩, ?_⟩
  rintro i m σ H ⟨rfl, hi, p⟩
  obtain ⟨qx, qy⟩ := hl i σ H p
  by_cases hlt : i < xs.length
  · refine .inr ⟨⟨xs, ys, _, _, qx, qy, List.getElem?_eq_getElem hlt, List.getElem?_eq_getElem (by omega)⟩, Pv (i + 1), fun σ' H' p' => ⟨xs.length - (i + 1), by omega, rfl, hlt, p'⟩, fun v H' y => ?_⟩
    obtain ⟨T, x', y', rfl, hT, rfl, f1, f2⟩ := y
    exact x_gtup2 (SqT.of upd_same) (hs i x' y' σ H _ (f1 xs qx) (f2 ys qy) p (same_upd hT))
  · have e : i = xs.length := by omega
    subst e
    exact .inl ⟨⟨xs, ys, qx, qy, Or.inl (Nat.le_refl _)⟩, hd σ H p⟩
/-! comprehensions -/
/-- tuples stay -/
def TupS (H H' : Hp) : Prop := ∀ a xs, H a = some (.tup xs) → H' a = some (.tup xs)
theorem TupS.of {H H' : Hp} (h : Same H H') : TupS H H' := fun a xs e => h a _ e
theorem TupS.trans {H H1 H2 : Hp} (a : TupS H H1) (b : TupS H1 H2) : TupS H H2 := fun c o h => b c o (a c o h)
theorem TupS.upd {H : Hp} {p : Addr} {o o' : HO} (h : H p = some o) (ho : ∀ xs, o ≠ .tup xs) : TupS H (upd H p o') := fun a xs e => by
  rw [upd_ne (ne_of e h (fun z => ho xs z.symm))]; exact e
def lcK (J : It) (g : TG) (tt : TT) (te : TE) (vs : List Nat) (σ : L2.St) (Q : VK) (H1 : Hp) : Prop := ∀ D, H1 D = none → ∃ W : Nat → Nat → Hp → Prop, (∃ m, W 0 m (upd H1 D (.lst []))) ∧ ∀ i m H, W i m H →
  (J.stop i H ∧ Q (.ref D) H) ∨ (J.go i H ∧ ∃ Nx : Hp → Prop, (∀ H', Nx H' → ∃ m', m' < m ∧ W (i + 1) m' H') ∧ ∀ x H', J.yld i H x H' → g x (wipe σ vs) H' fun σ2 H2 => wipe σ2 vs = wipe σ vs ∧ tt σ2 H2 fun b H3 =>
    if b = true then te σ2 H3 fun y H4 => ∃ acc, H4 D = some (.lst acc) ∧ acc.length < sizeLine ∧ Nx (upd H4 D (.lst (acc ++ [y]))) else Nx H3)
def lcL (K : PySem.W.Frag) (g : TG) (tt : TT) (te : TE) (vs : List Nat) (σ : L2.St) (Q : VK) : V → Hp → Prop := fun x H1 => ∃ a, x = .ref a ∧ (∃ xs, SqL K H1 a xs) ∧ lcK (Itl K a) g tt te vs σ Q H1
theorem x_lcL (h : tl σ H (lcL K g tt te vs σ Q)) : tLc (iList K tl) g tt te vs σ H Q := h
/-- what a turn of a comprehension asks -/
def LcTurn (g : TG) (tt : TT) (te : TE) (vs : List Nat) (σ : L2.St) (A : Nat → List V → Hp → Prop) (i : Nat) (x : V) (acc : List V) (H' : Hp) : Prop :=
  ∀ (NY : VK) (NN : Hp → Prop), (∀ y H4, Same H' H4 → A (i + 1) (acc ++ [y]) H4 → NY y H4) → (∀ H3, Same H' H3 → A (i + 1) acc H3 → NN H3) →
    g x (wipe σ vs) H' fun σ2 H2 => wipe σ2 vs = wipe σ vs ∧ tt σ2 H2 fun b H3 => if b = true then te σ2 H3 NY else NN H3
theorem lc_gen {n : Nat} {J : It} (Y : Nat → V → Prop) (A : Nat → List V → Hp → Prop) (hA : ∀ i acc H H', TupS H H' → A i acc H → A i acc H') (hn : n < sizeLine) (h0 : A 0 [] H)
    (hJ : ∀ (Pv : Nat → Hp → Prop) (Dr : Addr), (∀ i H', Pv i H' → Same H H') → Pv 0 (upd H Dr (.lst [])) →
      (∀ i x H', Y i x → Pv i H' → g x (wipe σ vs) H' fun σ2 H2 => wipe σ2 vs = wipe σ vs ∧ tt σ2 H2 fun b H3 =>
        if b = true then te σ2 H3 fun y H4 => ∃ acc, H4 Dr = some (.lst acc) ∧ acc.length < sizeLine ∧ Pv (i + 1) (upd H4 Dr (.lst (acc ++ [y]))) else Pv (i + 1) H3) →
      (∀ H', Pv n H' → Q (.ref Dr) H') → ∃ W : Nat → Nat → Hp → Prop, (∃ m, W 0 m (upd H Dr (.lst []))) ∧ ∀ i m H, W i m H →
        (J.stop i H ∧ Q (.ref Dr) H) ∨ (J.go i H ∧ ∃ Nx : Hp → Prop, (∀ H', Nx H' → ∃ m', m' < m ∧ W (i + 1) m' H') ∧ ∀ x H', J.yld i H x H' → g x (wipe σ vs) H' fun σ2 H2 => wipe σ2 vs = wipe σ vs ∧ tt σ2 H2 fun b H3 =>
          if b = true then te σ2 H3 fun y H4 => ∃ acc, H4 Dr = some (.lst acc) ∧ acc.length < sizeLine ∧ Nx (upd H4 Dr (.lst (acc ++ [y]))) else Nx H3))
    (hs : ∀ i x acc H', Y i x → Same H H' → A i acc H' → LcTurn g tt te vs σ A i x acc H')
    (hY : ∀ i x, Y i x → i < n) (hd : ∀ p acc H', H p = none → Same H H' → H' p = some (.lst acc) → A n acc H' → Q (.ref p) H') : lcK J g tt te vs σ Q H := by
  intro Dr hD
  refine hJ (fun i H' => ∃ acc, H' Dr = some (.lst acc) ∧ acc.length ≤ i ∧ Same H H' ∧ A i acc H') Dr (fun i H' ⟨_, _, _, s, _⟩ => s) ⟨[], upd_same, Nat.le_refl _, same_upd hD, hA _ _ _ _ (TupS.of (same_upd hD)) h0⟩ ?_ ?_
  · rintro i x H' hy ⟨acc, h1, h2, h3, h4⟩
    have hi := hY i x hy
    refine hs i x acc H' hy h3 h4 _ _ (fun y H4 s4 a4 => ?_) (fun H3 s3 a3 => ⟨acc, s3 _ _ h1, Nat.le_succ_of_le h2, h3.trans s3, a3⟩)
    have e4 := s4 _ _ h1
    refine ⟨acc, e4, by omega, acc ++ [y], upd_same, by rw [List.length_append]; exact Nat.add_le_add h2 (Nat.le_refl _), fun b o e => ?_, hA _ _ _ _ (TupS.upd e4 (fun _ z => by cases z)) a4⟩
    rw [upd_ne (ne_of_none e hD)]
    exact s4 _ _ (h3 _ _ e)
  · rintro H' ⟨acc, h1, h2, h3, h4⟩
    exact hd Dr acc H' hD h3 h1 h4
theorem x_lcLK (hq : SqL K H a xs) (A : Nat → List V → Hp → Prop) (hA : ∀ i acc H H', TupS H H' → A i acc H → A i acc H') (hn : xs.length < sizeLine) (h0 : A 0 [] H)
    (hs : ∀ i x acc H', xs[i]? = some x → Same H H' → A i acc H' → LcTurn g tt te vs σ A i x acc H')
    (hd : ∀ p acc H', H p = none → Same H H' → H' p = some (.lst acc) → A xs.length acc H' → Q (.ref p) H') : lcL K g tt te vs σ Q (.ref a) H :=
  ⟨a, rfl, ⟨_, hq⟩, lc_gen (fun i x => xs[i]? = some x) A hA hn h0 (fun Pv Dr hP p0 ht hd => lc_list (K := K) (a := a) (xs := xs) Pv p0 (fun i H' _ p => (hP i H' p).seq hq) ht hd) hs (fun i x h => (List.getElem?_eq_some_iff.mp h).1) hd⟩
def lcR1 (g : TG) (tt : TT) (te : TE) (vs : List Nat) (σ : L2.St) (Q : VK) : List V → Hp → Prop := fun ws H1 => ∃ j : Int, ws = [.int j] ∧ -(2 ^ 62) ≤ j ∧ j < 2 ^ 62 ∧ lcK (Itr 0 j.toNat) g tt te vs σ Q H1
theorem x_lcR1 (h : ta σ H (lcR1 g tt te vs σ Q)) : tLc (iRng1 ta) g tt te vs σ H Q := h
theorem x_lcR1K {j : Int} (A : Nat → List V → Hp → Prop) (hA : ∀ i acc H H', TupS H H' → A i acc H → A i acc H') (hn : 0 ≤ j ∧ j < 1000000) (h0 : A 0 [] H)
    (hs : ∀ i acc H', i < j.toNat → Same H H' → A i acc H' → LcTurn g tt te vs σ A i (.int i) acc H')
    (hd : ∀ p acc H', H p = none → Same H H' → H' p = some (.lst acc) → A j.toNat acc H' → Q (.ref p) H') : lcR1 g tt te vs σ Q [.int j] H :=
  ⟨j, rfl, by omega, by omega, lc_gen (fun i x => i < j.toNat ∧ x = .int i) A hA (Nat.lt_of_lt_of_le (by omega : j.toNat < 1000000) (by decide)) h0
    (fun Pv Dr hP p0 ht hd => lc_range Pv p0 (fun i H' hi p => ht i _ H' ⟨hi, by rw [Int.zero_add]⟩ p) hd) (fun i x acc H' h s a => by rw [h.2]; exact hs i acc H' h.1 s a) (fun i x h => h.1) hd⟩
def lcR2 (g : TG) (tt : TT) (te : TE) (vs : List Nat) (σ : L2.St) (Q : VK) : List V → Hp → Prop := fun ws H1 => ∃ i j : Int, ws = [.int i, .int j] ∧ (-(2 ^ 62) ≤ i ∧ i < 2 ^ 62 ∧ -(2 ^ 62) ≤ j ∧ j < 2 ^ 62) ∧ lcK (Itr i (j - i).toNat) g tt te vs σ Q H1
theorem x_lcR2 (h : ta σ H (lcR2 g tt te vs σ Q)) : tLc (iRng2 ta) g tt te vs σ H Q := h
theorem x_yes {QB : Bool → Hp → Prop} (q : QB true H) : tYes σ H QB := q
/-! methods of built-in types -/
def bmK (K : PySem.W.Frag) (T : String) (r : V → List V → Hp → VK → Prop) (t : TA) (σ : L2.St) (Q : VK) : V → Hp → Prop := fun x H1 => tyV K T x H1 ∧ t σ H1 fun xs H2 => r x xs H2 Q
theorem x_bm {T : String} {r : V → List V → Hp → VK → Prop} {t : TA} (h : te σ H (bmK K T r t σ Q)) : tBM K T r te t σ H Q := h
theorem x_bmL {r : V → List V → Hp → VK → Prop} {t : TA} (hq : SqL K H a xs) (h : t σ H fun ws H2 => r (.ref a) ws H2 Q) : bmK K "list" r t σ Q (.ref a) H := ⟨.inl ⟨rfl, _, hq⟩, h⟩
def bm0K (K : PySem.W.Frag) (T : String) (r : V → List V → Hp → VK → Prop) (Q : VK) : V → Hp → Prop := fun x H1 => tyV K T x H1 ∧ r x [] H1 Q
theorem x_bm0 {T : String} {r : V → List V → Hp → VK → Prop} (h : te σ H (bm0K K T r Q)) : tBM0 K T r te σ H Q := h
theorem x_bm0L {r : V → List V → Hp → VK → Prop} (hq : SqL K H a xs) (h : r (.ref a) [] H Q) : bm0K K "list" r Q (.ref a) H := ⟨.inl ⟨rfl, _, hq⟩, h⟩
theorem x_append {y : V} (h : H a = some (.lst xs)) (q : Q .non (upd H a (.lst (xs ++ [y])))) (hl : xs.length < sizeLine) : rAppend (.ref a) [y] H Q := ⟨a, xs, y, rfl, rfl, h, hl, q⟩
theorem x_clear (h : H a = some (.lst xs)) (q : Q .non (upd H a (.lst []))) : rClear (.ref a) [] H Q := ⟨a, xs, rfl, rfl, h, q⟩
/-! objects -/
theorem x_mk0 {C : Addr} (h : ∀ x dx H1, H x = none → H dx = none → dx ≠ x → Same H H1 → H1 x = some (.ins C dx []) → H1 dx = some (.own x) → Q (.ref x) H1) : tMake0 C σ H Q := fun x dx n nd ne =>
  h x dx _ n nd ne ((same_upd nd).trans (same_upd (by rw [upd_ne (Ne.symm ne)]; exact n))) upd_same (by rw [upd_ne ne, upd_same])
def mkK (C : Addr) (sp : Sp) (dvs : List V) (Q : VK) (E : XK) : List V → Hp → Prop := fun vs H1 => ∀ x dx, H1 x = none → H1 dx = none → dx ≠ x →
  sp (.ref x :: (vs ++ dvs)) (upd (upd H1 dx (.own x)) x (.ins C dx [])) (fun v H2 => v = .non ∧ Q (.ref x) H2) E
theorem x_mkS {C : Addr} {sp : Sp} {dvs : List V} {E : L2.St → XK} {t : TA} (h : t σ H (mkK C sp dvs Q (E σ))) : tMakeS C sp dvs E t σ H Q := h
theorem x_mkK {C : Addr} {sp : Sp} {dvs ws : List V} {E : XK} (h : ∀ x dx H1, H x = none → H dx = none → dx ≠ x → Same H H1 → H1 x = some (.ins C dx []) → H1 dx = some (.own x) → sp (.ref x :: (ws ++ dvs)) H1 (fun v H2 => v = .non ∧ Q (.ref x) H2) E) :
    mkK C sp dvs Q E ws H := fun x dx n nd ne => h x dx _ n nd ne ((same_upd nd).trans (same_upd (by rw [upd_ne (Ne.symm ne)]; exact n))) upd_same (by rw [upd_ne ne, upd_same])
theorem x_methD {P : Program} {w : World} {mg : Str → Option Value} {base : Heap} {CX : CXT} {n : Nat} {m : Str} {E : L2.St → XK} {t : TA} (h : te σ H (mtK P w K mg base CX n m (E σ) σ t Q)) : tMethD P w K mg base CX n m E te t σ H Q := h
theorem x_mtK {P : Program} {w : World} {mg : Str → Option Value} {base : Heap} {CX : CXT} {n : Nat} {m : Str} {E : XK} {t : TA} {C dx : Addr} {fs : List (Str × V)} {sp : Sp} (ho : H a = some (.ins C dx fs)) (hm : MO P w K mg base CX n C m sp) (hl : fs.lookup m = none)
    (h : t σ H fun vs H2 => sp (.ref a :: vs) H2 Q E) : mtK P w K mg base CX n m E σ t Q (.ref a) H := ⟨a, C, dx, fs, sp, rfl, ho, hl, hm, h⟩
def fldK (K : PySem.W.Frag) (f : Str) (Q : VK) : V → Hp → Prop := fun x H1 => ∃ a C dx fs v, x = .ref a ∧ H1 a = some (.ins C dx fs) ∧ Cls K C ∧ NoAttr K C f ∧ fs.lookup f = some v ∧ Q v H1
theorem x_fld {f : Str} (h : te σ H (fldK K f Q)) : tFld K te f σ H Q := h
theorem x_fldK {f : Str} {C dx : Addr} {fs : List (Str × V)} {v : V} (ho : H a = some (.ins C dx fs)) (hl : fs.lookup f = some v) (q : Q v H) (hc : Cls K C) (hn : NoAttr K C f) : fldK K f Q (.ref a) H := ⟨a, C, dx, fs, v, rfl, ho, hc, hn, hl, q⟩
def sfK (K : PySem.W.Frag) (f : Str) (y : V) (D : Ends) (σ : L2.St) : V → Hp → Prop := fun x H2 => ∃ a C dx fs, x = .ref a ∧ H2 a = some (.ins C dx fs) ∧ Cls K C ∧ NoAttr K C f ∧ fs.length < 1000 ∧ D.nx σ (upd H2 a (.ins C dx (putF f y fs)))
theorem x_sfld {f : Str} (h : te σ H fun y H1 => tl σ H1 (sfK K f y D σ)) : sFld K tl te f D σ H := h
end
theorem _root_.L2.FunD.okX {P : Program} {w : World} {K : PySem.W.Frag} {mg : Str → Option Value} {base : Heap} {x qual : Str} {st : Stmt} {f : Addr} {fd : FuncData} {dvs : List V} {kws : List (Str × V)} {N ps : List Str} {k : Nat} {sp : Sp}
    (F : FunD K x qual (defArgs st) (defBody st) (defScope st) dvs kws f fd) (S : FnScope N ps (defScope st)) (len : ∀ vs H Q E, sp vs H Q E → vs.length = ps.length)
    (hbody : ∀ (cdv : Value) (A : Around) (outer : List Env) (s : Shared) (H : Hp) (vs : List V) (Q : VK) (E : XK), Room k (A.deeper (envOfC qual (defScope st) s.heap.objs.size f cdv)) → sp vs H Q E →
      ∃ t, PSs (cxOf (L2.CX P w) P w K mg base N qual (defScope st) f cdv A outer s H E) (defBody st) t ∧ t { nx := fun _ H' => Q .non H', rt := Q } (start N vs) H) : FnOk P w K mg base (L2.CX P w) (k + 1) f fd ps sp := F.ok S len hbody
/-! ### fields added to, while, is, in -/
section
variable {σ : L2.St} {H : Hp} {K : PySem.W.Frag} {D : Ends} {ta tv te : TE} {tb : TS} {tc : TT} {a : Addr} {Q : VK} {x y : V} {f : Str} {rd : V → V → Hp → VK → Prop}
/-- all but what stands at S stays -/
def Off (S : List Addr) (H H' : Hp) : Prop := ∀ b o, b ∉ S → H b = some o → H' b = some o
theorem Off.refl {S : List Addr} : Off S H H := fun _ _ _ h => h
theorem Off.of {S : List Addr} {H' : Hp} (s : Same H H') : Off S H H' := fun b o _ h => s b o h
theorem Off.trans {S : List Addr} {H1 H2 : Hp} (h1 : Off S H H1) (h2 : Off S H1 H2) : Off S H H2 := fun b o n h => h2 b o n (h1 b o n h)
theorem Off.sub {S S' : List Addr} {H' : Hp} (h : Off S H H') (hs : ∀ b, b ∈ S → b ∈ S') : Off S' H H' := fun b o n e => h b o (fun m => n (hs b m)) e
theorem Off.same {S : List Addr} {H1 H2 : Hp} (s : Same H H1) (h : Off S H1 H2) (n : ∀ b, b ∈ S → H b = none) : Same H H2 := fun b o e => h b o (fun m => by rw [n b m] at e; cases e) (s b o e)
theorem same_none {H' : Hp} {b : Addr} (s : Same H H') (h : H' b = none) : H b = none := by
  cases e : H b with
  | none => rfl
  | some o => rw [s _ _ e] at h; cases h
theorem Off.same1 {H1 H2 : Hp} (s : Same H H1) (h : Off [a] H1 H2) (n : H a = none) : Same H H2 := h.same s fun b hb => by rw [List.mem_singleton] at hb; rw [hb]; exact n
theorem Off.at {S : List Addr} {H1 : Hp} {b : Addr} {o : HO} (h : Off S H H1) (e : H b = some o) (n : b ∉ S) : H1 b = some o := h b o n e
theorem Off.upd {S : List Addr} {o : HO} (h : a ∈ S) : Off S H (upd H a o) := fun b u n e => by
  rw [upd_ne (fun z => n (by rw [z]; exact h))]; exact e
theorem Off.lst {r : Addr} {H H' : Hp} {C dx : Addr} {fs : List (Str × V)} {a : Addr} {xs : List V} (s : Off [r] H H') (hr : H r = some (.ins C dx fs)) (h : H a = some (.lst xs)) : H' a = some (.lst xs) := s a _ (fun m => by
  rw [List.mem_singleton] at m; subst m; rw [hr] at h; cases h) h
theorem Off.tup {r : Addr} {H H' : Hp} {C dx : Addr} {fs : List (Str × V)} {a : Addr} {xs : List V} (s : Off [r] H H') (hr : H r = some (.ins C dx fs)) (h : H a = some (.tup xs)) : H' a = some (.tup xs) := s a _ (fun m => by
  rw [List.mem_singleton] at m; subst m; rw [hr] at h; cases h) h
theorem Off.ins {r : Addr} {H H' : Hp} {a : Addr} {o : HO} (s : Off [r] H H') (hne : a ≠ r) (h : H a = some o) : H' a = some o := s a _ (fun m => hne (List.mem_singleton.mp m)) h
theorem Off.tups {r : Addr} {H H' : Hp} {C dx : Addr} {fs : List (Str × V)} (s : Off [r] H H') (hr : H r = some (.ins C dx fs)) : TupS H H' := fun a xs h => s.tup hr h
def f3K (a C : Addr) (f : Str) (D : Ends) (σ : L2.St) : VK := fun z H3 => ∃ dx' fs', H3 a = some (.ins C dx' fs') ∧ fs'.length < 1000 ∧ D.nx σ (upd H3 a (.ins C dx' (putF f z fs')))
def faK (K : PySem.W.Frag) (tv : TE) (rd : V → V → Hp → VK → Prop) (f : Str) (D : Ends) (σ : L2.St) : V → Hp → Prop := fun x H1 => ∃ a C dx fs v, x = .ref a ∧ H1 a = some (.ins C dx fs) ∧ Cls K C ∧ NoAttr K C f ∧ fs.lookup f = some v ∧
  tv σ H1 fun y H2 => rd v y H2 (f3K a C f D σ)
theorem x_fldAug (h : ta σ H (faK K tv rd f D σ)) : sFldAug K ta tv rd f D σ H := h
theorem putF_new {f : Str} {y : V} : ∀ {fs : List (Str × V)}, fs.lookup f = none → putF f y fs = fs ++ [(f, y)]
  | [], _ => rfl
  | (g, x) :: r, h => by
    rw [List.lookup_cons] at h
    by_cases e : f = g
    · subst e; simp at h
    · rw [show (f == g) = false from beq_eq_false_iff_ne.mpr e] at h
      show (if g = f then _ else _) = _
      rw [if_neg (Ne.symm e), putF_new h]
      rfl
/-- self.f = y, f new -/
theorem x_sfN {C dx : Addr} {fs : List (Str × V)} (ho : H a = some (.ins C dx fs)) (hf : fs.lookup f = none) (q : ∀ H1, Off [a] H H1 → H1 a = some (.ins C dx (fs ++ [(f, y)])) → D.nx σ H1) (hc : Cls K C) (hn : NoAttr K C f) (hl : fs.length < 1000) : sfK K f y D σ (.ref a) H :=
  ⟨a, C, dx, fs, rfl, ho, hc, hn, hl, by rw [putF_new hf]; exact q _ (Off.upd (List.mem_singleton.mpr rfl)) upd_same⟩
theorem x_gsub {to ti : TE} {t : TSet} {v : V} {QS : L2.St → Hp → Prop} (h : to σ H fun o H1 => ti σ H1 fun i H2 => t o i v H2 fun H3 => QS σ H3) : gSub to ti t v σ H QS := h
theorem x_setL {xs : List V} {k : Int} {v : V} {QS : Hp → Prop} (hp : H a = some (.lst xs)) (q : ∀ H1, Off [a] H H1 → H1 a = some (.lst (xs.set k.toNat v)) → QS H1) (h0 : 0 ≤ k) (h1 : k < xs.length) : rSetL (.ref a) (.int k) v H QS :=
  ⟨a, xs, k, k.toNat, rfl, rfl, hp, by unfold ixN; rw [if_pos h0, if_pos h1], q _ (Off.upd (List.mem_singleton.mpr rfl)) upd_same⟩
/-- xs[i] of an augmented store -/
def rGetL (K : PySem.W.Frag) : V → V → Hp → VK → Prop := fun o i H Q => ∃ p xs k v, o = .ref p ∧ i = .int k ∧ SqL K H p xs ∧ 0 ≤ k ∧ xs[k.toNat]? = some v ∧ Q v H
theorem x_augS {to ti te : TE} {tget : V → V → Hp → VK → Prop} {tip : TIp} {tset : TSet} (h : to σ H fun o H1 => ti σ H1 fun i H2 => tget o i H2 fun x H3 => te σ H3 fun y H4 => tip x y H4 fun z H5 => tset o i z H5 fun H6 => D.nx σ H6) : tAugS to ti te tget tip tset D σ H := h
theorem x_seqAS {to ti te : TE} {tget : V → V → Hp → VK → Prop} {tip : TIp} {tset : TSet} {u : TS} (h : tAugS to ti te tget tip tset { D with nx := u D } σ H) : tSeq (tAugS to ti te tget tip tset) u D σ H := h
theorem x_getL {xs : List V} {k : Int} (h : SqL K H a xs) (q : Q (xs.getD k.toNat .non) H) (h0 : 0 ≤ k) (h1 : k < xs.length) : rGetL K (.ref a) (.int k) H Q := ⟨a, xs, k, _, rfl, rfl, h, h0, by
  have hn : k.toNat < xs.length := by omega
  simp [hn], q⟩
theorem x_getI {ns : List Int} {k : Int} (h : SqL K H a (ns.map V.int)) (q : Q (.int (ns.getD k.toNat 0)) H) (h0 : 0 ≤ k) (h1 : k < ns.length) : rGetL K (.ref a) (.int k) H Q := ⟨a, _, k, _, rfl, rfl, h, h0, by
  have hn : k.toNat < ns.length := by omega
  simp [hn], q⟩
theorem x_rSub {m n : Int} (q : Q (.int (m - n)) H) : rSub (.int m) (.int n) H Q := ⟨m, n, rfl, rfl, q⟩
/-- xs[i] by values that are named otherwise -/
theorem x_ixF {α : Type} {l : List α} {g : α → V} {k : Int} (d : α) (h : SqL K H a (l.map g)) (q : Q (g (l.getD k.toNat d)) H) (h0 : 0 ≤ k) (h1 : k < l.length) : rIx K (.ref a) (.int k) H Q := by
  have hn : k.toNat < l.length := by omega
  refine x_ixL h ?_ h0 (by rw [List.length_map]; exact h1)
  rw [show (l.map g).getD k.toNat .non = g (l.getD k.toNat d) by simp [hn]]
  exact q
theorem nin_of {b : Addr} (h : b ≠ a) : b ∉ [a] := fun z => h (List.mem_singleton.mp z)
theorem x_ixB {bs : List Bool} {k : Int} (h : SqL K H a (bs.map V.bl)) (q : Q (.bl (bs.getD k.toNat false)) H) (h0 : 0 ≤ k) (h1 : k < bs.length) : rIx K (.ref a) (.int k) H Q := x_ixF false h q h0 h1
theorem x_rAdd {m n : Int} (q : Q (.int (m + n)) H) : rAdd (.int m) (.int n) H Q := ⟨m, n, rfl, rfl, q⟩
theorem x_aug {i : Nat} {ti : TIp} (h : σ[i]? = some (some x)) (q : te σ H fun y H1 => ti x y H1 fun z H2 => D.nx (σ.set i (some z)) H2) : tAug i te ti D σ H := ⟨x, h, q⟩
theorem x_ipI {g : Int → Int → Int} {m n : Int} (q : Q (.int (g m n)) H) : ipI g (.int m) (.int n) H Q := ⟨m, n, rfl, rfl, q⟩
theorem x_isN (q : Q (.bl (decide (x = .non))) H) : uIs x .non H Q := .inl ⟨rfl, q⟩
theorem x_isNotN (q : Q (.bl (!decide (x = .non))) H) : uIsNot x .non H Q := .inl ⟨rfl, q⟩
theorem x_isB {b c : Bool} (q : Q (.bl (decide (b = c))) H) : uIs (.bl b) (.bl c) H Q := .inr ⟨b, c, rfl, rfl, q⟩
theorem x_isNotB {b c : Bool} (q : Q (.bl (!decide (b = c))) H) : uIsNot (.bl b) (.bl c) H Q := .inr ⟨b, c, rfl, rfl, q⟩
theorem inV_int (n : Int) (ns : List Int) : inV (.int n) (ns.map V.int) = decide (n ∈ ns) := by
  unfold inV
  induction ns with
  | nil => rfl
  | cons m ns ih =>
    rw [List.map_cons, List.any_cons, ih]
    have e : eqV (.int m) (.int n) = decide (n = m) := by
      show (m == n) = _
      rw [Bool.eq_iff_iff, beq_iff_eq, decide_eq_true_iff]
      exact ⟨Eq.symm, Eq.symm⟩
    rw [e, ← Bool.decide_or, decide_eq_decide, List.mem_cons]
theorem flat_ints (ns : List Int) : (ns.map V.int).all flatV = true := by
  rw [List.all_eq_true]
  intro x h
  obtain ⟨n, _, rfl⟩ := List.mem_map.mp h
  rfl
theorem x_inI {n : Int} {ns : List Int} (h : SqL K H a (ns.map V.int)) (q : Q (.bl (decide (n ∈ ns))) H) : uIn K (.int n) (.ref a) H Q := ⟨a, _, rfl, .inl h, rfl, flat_ints ns, by rw [inV_int] <;> exact q⟩
theorem x_notInI {n : Int} {ns : List Int} (h : SqL K H a (ns.map V.int)) (q : Q (.bl (!decide (n ∈ ns))) H) : uNotIn K (.int n) (.ref a) H Q := ⟨a, _, rfl, .inl h, rfl, flat_ints ns, by rw [inV_int] <;> exact q⟩
end
/-! ### dicts of text keys -/
section
variable {σ : L2.St} {H : Hp} {K : PySem.W.Frag} {D : Ends} {td ty tv : TE} {a : Addr} {Q : VK} {x v : V} {z : Str} {kvs kvs' : List (L2.Key × V)}
def dgK (x : V) (Q : VK) : V → Hp → Prop := fun y H2 => ∃ a v, x = .ref a ∧ DGet H2 a y (some v) ∧ Q v H2
theorem x_dget (h : td σ H fun x H1 => ty σ H1 (dgK x Q)) : tDGet td ty σ H Q := h
theorem x_dgS (h : H a = some (.dK kvs)) (hv : valV kvs (.inr z) = some v) (q : Q v H) : dgK (.ref a) Q (.str z) H := ⟨a, v, rfl, by rw [← hv]; exact DGet.k (k := .inr z) h, q⟩
def dpK (x v : V) (D : Ends) (σ : L2.St) : V → Hp → Prop := fun y H3 => ∃ a H4, x = .ref a ∧ DPut H3 a y v H4 ∧ D.nx σ H4
theorem x_dput (h : tv σ H fun v H1 => td σ H1 fun x H2 => ty σ H2 (dpK x v D σ)) : sDPut td ty tv D σ H := h
theorem x_seqDP {u : TS} (h : sDPut td ty tv { D with nx := u D } σ H) : tSeq (sDPut td ty tv) u D σ H := h
/-- {k: v, ..} -/
def dspK (p : Addr) (Q : VK) : List (V × V) → Hp → Prop := fun ps H2 => H2 p = some (.dK []) ∧ ∃ kvs : List (L2.Key × V), ps = kvs.map (fun kv => (kV kv.1, kv.2)) ∧ kvs.length ≤ 15 ∧ Q (.ref p) (upd H2 p (.dK (mergeK [] kvs)))
theorem x_disp {trs : List (TE × TE)} (h : ∀ p H1, H p = none → Same H H1 → H1 p = some (.dK []) → tPairs trs σ H1 (dspK p Q)) : tDisp trs σ H Q := fun p hp => h p _ hp (same_upd hp) upd_same
theorem x_prN {QP : List (V × V) → Hp → Prop} (q : QP [] H) : tPairs [] σ H QP := q
theorem x_prC {tk tv : TE} {r : List (TE × TE)} {QP : List (V × V) → Hp → Prop} (q : tk σ H fun x H1 => tv σ H1 fun y H2 => tPairs r σ H2 fun ps H3 => QP ((x, y) :: ps) H3) : tPairs ((tk, tv) :: r) σ H QP := q
theorem x_dnew (h : ∀ p H1, H p = none → Same H H1 → H1 p = some (.dK []) → Q (.ref p) H1) : tDNewK σ H Q := fun p hp => h p _ hp (same_upd hp) upd_same
/-! k in d, d.get(k), d.get(k, x), d.setdefault(k, x), d.pop(k), d.pop(k, x) -/
def dinK (y : V) (Q : VK) : V → Hp → Prop := fun x H2 => ∃ a o, x = .ref a ∧ DGet H2 a y o ∧ Q (.bl o.isSome) H2
theorem x_din (h : ty σ H fun y H1 => td σ H1 (dinK y Q)) : tDIn ty td σ H Q := h
def dninK (y : V) (Q : VK) : V → Hp → Prop := fun x H2 => ∃ a o, x = .ref a ∧ DGet H2 a y o ∧ Q (.bl (!o.isSome)) H2
theorem x_dnin (h : ty σ H fun y H1 => td σ H1 (dninK y Q)) : tDNotIn ty td σ H Q := h
theorem x_dninI {n : Int} (h : H a = some (.dK kvs)) (q : Q (.bl (!(valV kvs (.inl n)).isSome)) H) : dninK (.int n) Q (.ref a) H := ⟨a, _, rfl, DGet.k (k := .inl n) h, q⟩
theorem x_dinI {n : Int} (h : H a = some (.dK kvs)) (q : Q (.bl (valV kvs (.inl n)).isSome) H) : dinK (.int n) Q (.ref a) H := ⟨a, _, rfl, DGet.k (k := .inl n) h, q⟩
def dg1E (a : Addr) (Q : VK) : V → Hp → Prop := fun y H2 => ∃ o, DGet H2 a y o ∧ Q (o.getD .non) H2
def dg1K (ty : TE) (Q : VK) (σ : L2.St) : V → Hp → Prop := fun x H1 => ∃ a, x = .ref a ∧ IsD H1 a ∧ ty σ H1 (dg1E a Q)
theorem x_dget1 (h : td σ H (dg1K ty Q σ)) : tDGet1 td ty σ H Q := h
theorem x_dg1K (h : H a = some (.dK kvs)) (q : ty σ H (dg1E a Q)) : dg1K ty Q σ (.ref a) H := ⟨a, rfl, .inl ⟨kvs, .inl h⟩, q⟩
theorem x_dg1I {n : Int} (h : H a = some (.dK kvs)) (q : Q ((valV kvs (.inl n)).getD .non) H) : dg1E a Q (.int n) H := ⟨_, DGet.k (k := .inl n) h, q⟩
def dsE (a : Addr) (Q : VK) (y : V) : V → Hp → Prop := fun z H3 => ∃ (kvs : List (L2.Key × V)) (k : L2.Key), H3 a = some (.dK kvs) ∧ y = kV k ∧ kvs.length < sizeLine ∧ (∀ v, valV kvs k = some v → Q v H3) ∧ (valV kvs k = none → Q z (L2.upd H3 a (.dK (putK kvs k z))))
def dsK (ty tx : TE) (Q : VK) (σ : L2.St) : V → Hp → Prop := fun x H1 => ∃ a, x = .ref a ∧ IsD H1 a ∧ ty σ H1 fun y H2 => tx σ H2 (dsE a Q y)
theorem x_dsetd {tx : TE} (h : td σ H (dsK ty tx Q σ)) : tDSetd td ty tx σ H Q := h
theorem x_dsK {tx : TE} (h : H a = some (.dK kvs)) (q : ty σ H fun y H2 => tx σ H2 (dsE a Q y)) : dsK ty tx Q σ (.ref a) H := ⟨a, rfl, .inl ⟨kvs, .inl h⟩, q⟩
def dpp1E (a : Addr) (Q : VK) : V → Hp → Prop := fun y H2 => ∃ kvs k v, H2 a = some (.dK kvs) ∧ y = kV k ∧ valV kvs k = some v ∧ Q v (L2.upd H2 a (.dK (dropK kvs k)))
def dpp1K (ty : TE) (Q : VK) (σ : L2.St) : V → Hp → Prop := fun x H1 => ∃ a, x = .ref a ∧ IsD H1 a ∧ ty σ H1 (dpp1E a Q)
theorem x_dpop1 (h : td σ H (dpp1K ty Q σ)) : tDPop1 td ty σ H Q := h
theorem x_dpp1K (h : H a = some (.dK kvs)) (q : ty σ H (dpp1E a Q)) : dpp1K ty Q σ (.ref a) H := ⟨a, rfl, .inl ⟨kvs, .inl h⟩, q⟩
def dpp2E (a : Addr) (Q : VK) (y : V) : V → Hp → Prop := fun z H3 => ∃ kvs k, H3 a = some (.dK kvs) ∧ y = kV k ∧ (∀ v, valV kvs k = some v → Q v (L2.upd H3 a (.dK (dropK kvs k)))) ∧ (valV kvs k = none → Q z H3)
def dpp2K (ty tx : TE) (Q : VK) (σ : L2.St) : V → Hp → Prop := fun x H1 => ∃ a, x = .ref a ∧ IsD H1 a ∧ ty σ H1 fun y H2 => tx σ H2 (dpp2E a Q y)
theorem x_dpop2 {tx : TE} (h : td σ H (dpp2K ty tx Q σ)) : tDPop2 td ty tx σ H Q := h
theorem x_dpp2K {tx : TE} (h : H a = some (.dK kvs)) (q : ty σ H fun y H2 => tx σ H2 (dpp2E a Q y)) : dpp2K ty tx Q σ (.ref a) H := ⟨a, rfl, .inl ⟨kvs, .inl h⟩, q⟩
end
/-! ### exceptions -/
section
variable {X : Cx} {K : PySem.W.Frag} {W Wout : WX} {D : Ends} {σ : L2.St} {H : Hp} {cls c : Value} {d : Option Addr} {a C fI : Addr} {Q : VK}
/-- an exception class without an own __init__ -/
structure XC (K : PySem.W.Frag) (C : Addr) : Prop where
  q : PySem.W.excIn K C [.type "ValueError", .type "Exception", .type "BaseException", .type "object"] "ValueError.__new__" = true
  k : PySem.W.keepIn K (.ref C) = true
  r : PySem.W.subIn K (.ref C) (.type "BaseException") = some true
  t : PySem.W.typeIn K (.ref C) = some (.type "type")
def tRaise (t : L2.St → Hp → XK → Prop) (W : WX) : TS := fun _ σ H => t σ H fun cls d H' => W cls d σ H'
theorem ps_raiseK {e : Expr} {t : L2.St → Hp → XK → Prop} {pos : Pos} (hc : X.calm = true) (tk : Takes X W) (he : PMk X e t) : PS X (.Raise (some e) none pos) (tRaise t W) := ps_raise hc tk he
def tMkE (C : Addr) : L2.St → Hp → XK → Prop := fun _ H Q => Q (.ref C) none H
theorem pmk_ownK {x m : Str} {j : Nat} {p p2 pos : Pos} (T : XC X.K C) (gC : X.mg x = some (.ref C)) (hg : Gl X x) (hdb : (x == ("__debug__" : Str)) = false := by decide) : PMk X (.Call (.Name x p) [.Constant (.str m) j p2] [] pos) (tMkE C) :=
  pmk_own PySem.F.excBase_ValueError T.q gC T.k (raises_own T.r T.t) hg hdb
theorem x_raise {t : L2.St → Hp → XK → Prop} (h : t σ H fun cls d H' => W cls d σ H') : tRaise t W D σ H := h
theorem x_seqR {t : L2.St → Hp → XK → Prop} {u : TS} (h : tRaise t W { D with nx := u D } σ H) : tSeq (tRaise t W) u D σ H := h
theorem x_mkE {Q : XK} (q : Q (.ref C) none H) : tMkE C σ H Q := q
def tTry1 (K : PySem.W.Frag) (c : Value) (tb : WX → TS) (ts : Addr → Value → Option Addr → TS) (Wout : WX) : TS := fun D σ H => tb (wOnly K c ts Wout D) D σ H
theorem x_try1 {tb : WX → TS} {ts : Addr → Value → Option Addr → TS} (h : tb (wOnly K c ts Wout D) D σ H) : tTry1 K c tb ts Wout D σ H := h
theorem x_seqT1 {tb : WX → TS} {ts : Addr → Value → Option Addr → TS} {u : TS} (h : tTry1 K c tb ts Wout { D with nx := u D } σ H) : tSeq (tTry1 K c tb ts Wout) u D σ H := h
def tTryA (K : PySem.W.Frag) (c : Value) (i : Nat) (tb : WX → TS) (ts : Addr → Value → Option Addr → TS) (Wout : WX) : TS := fun D σ H => tb (wAs K c i ts Wout D) D σ H
theorem x_tryA {i : Nat} {tb : WX → TS} {ts : Addr → Value → Option Addr → TS} (h : tb (wAs K c i ts Wout D) D σ H) : tTryA K c i tb ts Wout D σ H := h
theorem x_seqTA {i : Nat} {tb : WX → TS} {ts : Addr → Value → Option Addr → TS} {u : TS} (h : tTryA K c i tb ts Wout { D with nx := u D } σ H) : tSeq (tTryA K c i tb ts Wout) u D σ H := h
theorem ps_tryA {x n : Str} {i : Nat} {body suite : List Stmt} {b₀ : Stmt} {np pos pos' : Pos} {tb : WX → TS} {ts : Addr → Value → Option Addr → TS} (hs : X.stack = X.env :: X.outer) (hf : X.env.frame = some X.env.locals) (hN : X.N.Nodup) (hi : X.N[i]? = some n) (hln : X.env.kindOf n = some .local) (hc : Names X x c) (tk : Takes X Wout)
    (hb : ∀ (W : WX) (pn : List (Addr × Obj)) (xe : Value → Shared → Prop), Takes (X.tr pn xe) W → PassesOwn (model X.prog X.w) X.A X.env xe → PSs (X.tr pn xe) body (tb W))
    (hsu : ∀ (a : Addr) (oe : Obj) (cls : Value) (d : Option Addr) (pn : List (Addr × Obj)), Zc cls d oe → (∃ vs, oe.data = .fields vs) → PSs (X.suite a ((a, oe) :: pn)) (b₀ :: suite) (ts a cls d)) :
    PS X (.Try body [.ExceptHandler (some (.Name x np)) (some n) (b₀ :: suite) pos'] [] [] pos) (tTryA X.K c i tb ts Wout) := ps_try_as hs hf hN hi hln hc tk hb hsu
theorem x_asT {i : Nat} {ts : Addr → Value → Option Addr → TS} (hx : PySem.W.exmOne K cls c = some true)
    (q : ∀ a, H a = none → ts a cls d { nx := fun σ' H' => D.nx (σ'.set i none) H', rt := D.rt, bk := fun σ' H' => D.bk (σ'.set i none) H', ct := fun σ' H' => D.ct (σ'.set i none) H' } (σ.set i (some (.ref a))) H) : wAs K c i ts Wout D cls d σ H := ⟨true, hx, fun _ => q, fun z => nomatch z⟩
/-! several except clauses -/
def tTryM (K : PySem.W.Frag) (l : List (Value × (Addr → Value → Option Addr → TS))) (tb : WX → TS) (Wout : WX) : TS := fun D σ H => tb (wMany K Wout D l) D σ H
theorem x_tryM {l : List (Value × (Addr → Value → Option Addr → TS))} {tb : WX → TS} (h : tb (wMany K Wout D l) D σ H) : tTryM K l tb Wout D σ H := h
theorem x_seqTM {l : List (Value × (Addr → Value → Option Addr → TS))} {tb : WX → TS} {u : TS} (h : tTryM K l tb Wout { D with nx := u D } σ H) : tSeq (tTryM K l tb Wout) u D σ H := h
/-- e.f of a caught exception -/
def xfK (a : Addr) (cls : Value) (d : Option Addr) (C : Addr) (f : Str) (Q : VK) : V → Hp → Prop := fun x H1 => x = .ref a ∧ cls = .ref C ∧ ∃ (dd : Addr) (fs : List (Str × V)) (v : V), d = some dd ∧ H1 dd = some (.xd fs) ∧ fs.lookup f = some v ∧ Q v H1
theorem x_xf {f : Str} {te : TE} (h : te σ H (xfK a cls d C f Q)) : tXf a cls d C f te σ H Q := h
/-- isinstance(e, c) of a caught exception without fields -/
def rIsX (K : PySem.W.Frag) (a : Addr) (cls : Value) (d : Option Addr) : List V → Hp → VK → Prop := fun xs H Q => ∃ (E : Addr) (t : String) (b : Bool), cls = .ref E ∧ d = none ∧ ExcC K E ∧ xs = [.ref a, .ty t] ∧ PySem.W.kitOne K (.ref E) (.type t) = some b ∧ Q (.bl b) H
/-- isinstance(e, C), C an own class -/
def rIsXC (K : PySem.W.Frag) (a : Addr) (cls : Value) (d : Option Addr) : List V → Hp → VK → Prop := fun xs H Q => ∃ (E C : Addr) (b : Bool), cls = .ref E ∧ d = none ∧ ExcC K E ∧ xs = [.ref a, .ref C] ∧ PySem.W.kitOne K (.ref E) (.ref C) = some b ∧ Q (.bl b) H
theorem cr_isXC {oe : Obj} {pn : List (Addr × Obj)} (hz : Zc cls d oe) (hf : ∃ vs, oe.data = .fields vs) : CallR (X.suite a ((a, oe) :: pn)) (.builtin "isinstance") (rIsXC X.K a cls d) := by
  intro pins s σ H xs us Q I r h
  obtain ⟨E, C, b, rfl, rfl, hE, rfl, hk, q⟩ := h
  exact call_isE hE hz hf pins s σ H _ us Q I r ⟨.ref C, .ref C, b, rfl, fun u z => z, hk, q⟩
theorem x_isXC {E C : Addr} {b : Bool} (q : Q (.bl b) H) (hE : ExcC K E) (hk : PySem.W.kitOne K (.ref E) (.ref C) = some b) : rIsXC K a (.ref E) none [.ref a, .ref C] H Q := ⟨E, C, b, rfl, rfl, hE, rfl, hk, q⟩
theorem cr_isX {oe : Obj} {pn : List (Addr × Obj)} (hz : Zc cls d oe) (hf : ∃ vs, oe.data = .fields vs) : CallR (X.suite a ((a, oe) :: pn)) (.builtin "isinstance") (rIsX X.K a cls d) := by
  intro pins s σ H xs us Q I r h
  obtain ⟨E, t, b, rfl, rfl, hE, rfl, hk, q⟩ := h
  exact call_isE hE hz hf pins s σ H _ us Q I r ⟨.ty t, .type t, b, rfl, fun u z => z, hk, q⟩
theorem x_isX {E : Addr} {t : String} {b : Bool} (q : Q (.bl b) H) (hE : ExcC K E) (hk : PySem.W.kitOne K (.ref E) (.type t) = some b) : rIsX K a (.ref E) none [.ref a, .ty t] H Q := ⟨E, t, b, rfl, rfl, hE, rfl, hk, q⟩
/-! a class with an own __init__ -/
def veK (K : PySem.W.Frag) (Q : VK) : List V → Hp → Prop := fun vs H1 => ∃ (a C : Addr) (ws : List V), vs = .ref a :: ws ∧ ws.length ≤ 1000 ∧ OexC K C ∧ H1 a = some (exo a C none) ∧ Q .non H1
theorem x_vei {ta : TA} (h : ta σ H (veK K Q)) : tVeI K ta σ H Q := h
def moK (C : Addr) (sp : Sp) (dvs : List V) (Q : XK) : List V → Hp → Prop := fun vs H1 => vs.length ≤ 1000 ∧ ∀ a, H1 a = none → sp (.ref a :: (vs ++ dvs)) (upd H1 a (exo a C none))
  (fun v H2 => v = .non ∧ ∃ (d : Addr) (fs : List (Str × V)), H2 a = some (exo a C (some d)) ∧ H2 d = some (exd d fs) ∧ H1 d = none ∧ Q (.ref C) (some d) (upd (del H2 a) d (.xd fs))) (fun _ _ _ => False)
theorem x_mkO {sp : Sp} {dvs : List V} {Q : XK} {ta : TA} (h : ta σ H (moK C sp dvs Q)) : tMkO C sp dvs ta σ H Q := h
end
/-! several except clauses, some of them with a name -/
section
variable {X : Cx}
/-- what a clause does with an exception at q: the slot of its name, if it has one, holds it -/
def inAs (o : Option Nat) (ts : Addr → Value → Option Addr → TS) (q : Addr) (cls : Value) (d : Option Addr) : TS := match o with
  | none => ts q cls d
  | some i => fun D σ H => ts q cls d { nx := fun σ' H' => D.nx (σ'.set i none) H', rt := D.rt, bk := fun σ' H' => D.bk (σ'.set i none) H', ct := fun σ' H' => D.ct (σ'.set i none) H' } (σ.set i (some (.ref q))) H
def wMix (K : PySem.W.Frag) (Wout : WX) (D : Ends) : List (Value × Option Nat × (Addr → Value → Option Addr → TS)) → WX
  | [] => Wout
  | (c, o, ts) :: r => fun cls d σ H => ∃ b, PySem.W.exmOne K cls c = some b ∧ (b = true → ∀ q, H q = none → inAs o ts q cls d D σ H) ∧ (b = false → wMix K Wout D r cls d σ H)
def tMix (K : PySem.W.Frag) (l : List (Value × Option Nat × (Addr → Value → Option Addr → TS))) (tb : WX → TS) (Wout : WX) : TS := fun D σ H => tb (wMix K Wout D l) D σ H
variable {K : PySem.W.Frag} {Wout : WX} {D : Ends} {σ : L2.St} {H : Hp} {cls c : Value} {d : Option Addr}
theorem x_mix {l : List (Value × Option Nat × (Addr → Value → Option Addr → TS))} {tb : WX → TS} (h : tb (wMix K Wout D l) D σ H) : tMix K l tb Wout D σ H := h
theorem x_seqMix {l : List (Value × Option Nat × (Addr → Value → Option Addr → TS))} {tb : WX → TS} {u : TS} (h : tMix K l tb Wout { D with nx := u D } σ H) : tSeq (tMix K l tb Wout) u D σ H := h
end
/-! list(reversed(x)), x a list -/
section
variable {X : Cx}
def tListRev (K : PySem.W.Frag) (te : TE) : TE := fun σ H Q => te σ H fun v H1 => ∃ (a : Addr) (xs : List V), v = .ref a ∧ SqL K H1 a xs ∧ ∀ q, H1 q = none → Q (.ref q) (upd H1 q (.lst xs.reverse))
def lrK (K : PySem.W.Frag) (Q : VK) : V → Hp → Prop := fun v H1 => ∃ (a : Addr) (xs : List V), v = .ref a ∧ SqL K H1 a xs ∧ ∀ q, H1 q = none → Q (.ref q) (upd H1 q (.lst xs.reverse))
theorem x_listRev {K : PySem.W.Frag} {te : TE} {σ : L2.St} {H : Hp} {Q : VK} (h : te σ H (lrK K Q)) : tListRev K te σ H Q := h
theorem x_lrK {K : PySem.W.Frag} {H : Hp} {a : Addr} {xs : List V} {Q : VK} (h : SqL K H a xs) (q : New H Q (.lst xs.reverse)) : lrK K Q (.ref a) H := ⟨a, xs, rfl, h, q.mk⟩
end
/-! sorted pairs of numbers -/
def leP (a b : Int × Int) : Bool := !SrtO.lexB b a
def sortP (l : List (Int × Int)) : List (Int × Int) := l.mergeSort leP
/-- a list of tuples of two numbers each -/
def PairL (H : Hp) (xs : List V) (l : List (Int × Int)) : Prop := xs.length = l.length ∧ ∀ (i : Nat) x e, xs[i]? = some x → l[i]? = some e → ∃ t, x = .ref t ∧ H t = some (.tup [.int e.1, .int e.2])
theorem PairL.mono {H H' : Hp} {xs : List V} {l : List (Int × Int)} (s : TupS H H') (h : PairL H xs l) : PairL H' xs l := ⟨h.1, fun i x e h1 h2 => by
  obtain ⟨t, q, h⟩ := h.2 i x e h1 h2
  exact ⟨t, q, s _ _ h⟩⟩
theorem PairL.nil {H : Hp} : PairL H [] [] := ⟨rfl, fun i x e h _ => by simp at h⟩
theorem PairL.snoc {H : Hp} {xs : List V} {l : List (Int × Int)} {v : V} {e : Int × Int} (h : PairL H xs l) (hv : ∃ t, v = .ref t ∧ H t = some (.tup [.int e.1, .int e.2])) : PairL H (xs ++ [v]) (l ++ [e]) := by
  refine ⟨by simp [h.1], fun i x y h1 h2 => ?_⟩
  by_cases hi : i < xs.length
  · rw [List.getElem?_append_left hi] at h1
    rw [List.getElem?_append_left (h.1 ▸ hi)] at h2
    exact h.2 i x y h1 h2
  · have e1 : i = xs.length := by
      have := (List.getElem?_eq_some_iff.mp h1).1
      simp at this
      omega
    subst e1
    rw [List.getElem?_append_right (Nat.le_refl _)] at h1
    rw [h.1, List.getElem?_append_right (Nat.le_refl _)] at h2
    simp at h1 h2
    subst h1 h2
    exact hv
def pairV (H : Hp) : V → Int × Int
  | .ref t => match H t with
    | some (.tup [.int i, .int j]) => (i, j)
    | _ => (0, 0)
  | _ => (0, 0)
theorem pairV_ref {H : Hp} {t : Addr} {i j : Int} (h : H t = some (.tup [.int i, .int j])) : pairV H (.ref t) = (i, j) := by
  unfold pairV
  simp only [h]
theorem PairL.map {H : Hp} {xs : List V} {l : List (Int × Int)} (h : PairL H xs l) : xs.map (pairV H) = l := by
  refine List.ext_getElem? fun i => ?_
  rw [List.getElem?_map]
  cases e1 : xs[i]? with
  | none =>
    have := h.1
    rw [List.getElem?_eq_none_iff] at e1
    rw [List.getElem?_eq_none (by omega)]
    rfl
  | some x =>
    have hl := (List.getElem?_eq_some_iff.mp e1).1
    obtain ⟨e, e2⟩ : ∃ e, l[i]? = some e := ⟨_, List.getElem?_eq_getElem (by have := h.1; omega)⟩
    obtain ⟨t, rfl, ht⟩ := h.2 i x e e1 e2
    rw [e2, Option.map_some, pairV_ref ht]
/-! sorted tuples of whole numbers, fewer than 64 -/
/-- a list of tuples of whole numbers -/
def TupL (H : Hp) (xs : List V) (ls : List (List Int)) : Prop := xs.length = ls.length ∧ ∀ (i : Nat) x e, xs[i]? = some x → ls[i]? = some e → ∃ t, x = .ref t ∧ H t = some (.tup (e.map V.int))
theorem TupL.mono {H H' : Hp} {xs : List V} {l : List (List Int)} (s : TupS H H') (h : TupL H xs l) : TupL H' xs l := ⟨h.1, fun i x e h1 h2 => by
  obtain ⟨t, q, h⟩ := h.2 i x e h1 h2
  exact ⟨t, q, s _ _ h⟩⟩
theorem TupL.nil {H : Hp} : TupL H [] [] := ⟨rfl, fun i x e h _ => by simp at h⟩
theorem TupL.snoc {H : Hp} {xs : List V} {l : List (List Int)} {v : V} {e : List Int} (h : TupL H xs l) (hv : ∃ t, v = .ref t ∧ H t = some (.tup (e.map V.int))) : TupL H (xs ++ [v]) (l ++ [e]) := by
  refine ⟨by simp [h.1], fun i x y h1 h2 => ?_⟩
  by_cases hi : i < xs.length
  · rw [List.getElem?_append_left hi] at h1
    rw [List.getElem?_append_left (h.1 ▸ hi)] at h2
    exact h.2 i x y h1 h2
  · have e1 : i = xs.length := by
      have := (List.getElem?_eq_some_iff.mp h1).1
      simp at this
      omega
    subst e1
    rw [List.getElem?_append_right (Nat.le_refl _)] at h1
    rw [h.1, List.getElem?_append_right (Nat.le_refl _)] at h2
    simp at h1 h2
    subst h1 h2
    exact hv
theorem TupL.take {H : Hp} {ws : List V} {is : List (List Int)} (h : TupL H ws is) (m : Nat) : TupL H (ws.take m) (is.take m) := ⟨by rw [List.length_take, List.length_take, h.1], fun i x e h1 h2 => by
  rw [List.getElem?_take] at h1 h2
  split at h1
  · rename_i hi
    rw [if_pos hi] at h2
    exact h.2 i x e h1 h2
  · cases h1⟩
def vInt : V → Int
  | .int n => n
  | _ => 0
theorem vInt_map (e : List Int) : (e.map V.int).map vInt = e := by
  rw [List.map_map]
  exact List.map_id'' (fun _ => rfl) e
def tupV (H : Hp) : V → List Int
  | .ref t => match H t with
    | some (.tup vs) => vs.map vInt
    | _ => []
  | _ => []
theorem tupV_ref {H : Hp} {t : Addr} {e : List Int} (h : H t = some (.tup (e.map V.int))) : tupV H (.ref t) = e := by
  unfold tupV
  simp only [h]
  exact vInt_map e
theorem TupL.get {H : Hp} {xs : List V} {l : List (List Int)} (h : TupL H xs l) {i : Nat} {x : V} (hi : xs[i]? = some x) : ∃ e t, l[i]? = some e ∧ x = .ref t ∧ H t = some (.tup (e.map V.int)) := by
  have hl := (List.getElem?_eq_some_iff.mp hi).1
  obtain ⟨e, e2⟩ : ∃ e, l[i]? = some e := ⟨_, List.getElem?_eq_getElem (by have := h.1; omega)⟩
  obtain ⟨t, rfl, ht⟩ := h.2 i x e hi e2
  exact ⟨e, t, e2, rfl, ht⟩
theorem TupL.map {H : Hp} {xs : List V} {l : List (List Int)} (h : TupL H xs l) : xs.map (tupV H) = l := by
  refine List.ext_getElem? fun i => ?_
  rw [List.getElem?_map]
  cases e1 : xs[i]? with
  | none =>
    have := h.1
    rw [List.getElem?_eq_none_iff] at e1
    rw [List.getElem?_eq_none (by omega)]
    rfl
  | some x =>
    obtain ⟨e, t, e2, rfl, ht⟩ := h.get e1
    rw [e2, Option.map_some, tupV_ref ht]
/-! sorted numbers -/
/-! a comprehension over the keys of a dict -/
/-! a loop over the values of a dict, which is locked meanwhile -/
/-! min of a list of pairs of numbers -/
section
variable {prog : Program} {w : World} {A : Around} {R : Result → Shared → Prop} {I : Addr} {fp wr : List Addr} {n : Nat} {P : Nat → Value → Prop} {St : Nat → Heap → Prop}
/-- what stays but for the walk's own and the list at S -/
def KeepsB (wr : List Addr) (S : Addr) (h0 h : Heap) : Prop := ∀ b o, b ∉ wr → b ≠ S → h0.get? b = some o → h.get? b = some o
theorem KeepsB.more {S : Addr} {h0 h h2 : Heap} (a : KeepsB wr S h0 h) (k : ∀ b o, b ∉ wr → h.get? b = some o → h2.get? b = some o) : KeepsB wr S h0 h2 := fun b o n1 n2 e => k b o n1 (a b o n1 n2 e)
theorem KeepsB.put {S : Addr} {h0 h : Heap} {f : Obj → Obj} (a : KeepsB wr S h0 h) : KeepsB wr S h0 (h.update S f) := fun b o n1 n2 e => (Heap.get?_update_other _ _ (Ne.symm n2)).trans (a b o n1 n2 e)
theorem min_turns (W : Walks prog w A.in1 I fp wr n P St) (bt : Nat → Nat → Bool) (S : Addr) (far : S ∉ fp) (kw : List (Str × Value)) (h0 : Heap)
    (less : ∀ (t : Shared) (i j : Nat) (x y : Value) (Q E : Value → Shared → Prop), KeepsB wr S h0 t.heap → P i x → P j y → Q (.bool (bt i j)) t → wpAny (model prog w) A.in1 (richCompare .Lt x y) Q E t) :
    ∀ (m j : Nat) (s : Shared) (best : Value) (c : Nat), n - (j + 1) = m → j + 1 ≤ n → St (j + 1) s.heap → P (argBest bt j) best → KeepsB wr S h0 s.heap → s.heap.get? S = some { cls := .type "list", dict := none, data := .seq #[best, best] c, slots := #[] } →
      (∀ v h' tk, P (argBest bt (n - 1)) v → KeepsB wr S h0 h' → R (.ok (.ret v)) { s with heap := h', toks := tk }) → codeAny (model prog w) A (.builtin "min.loop" ⟨[.ref I, .none, .ref S], kw⟩) R s := by
  have farw : S ∉ wr := fun h => far (W.sub _ h)
  have nm : (toString "min" ++ toString ".loop" : String) = "min.loop" := by decide
  intro m; induction m with
  | zero =>
    intro j s best c hm hj hst hb kp hS fin
    have hin : j + 1 = n := by omega
    refine codeAny_builtin PySem.F.entry_min_loop ?_; rw [Around.under_plainId PySem.F.plain_min_loop _]
    show wpAny _ A.in1 (seqItems? (Value.ref S) >>= _) _ _ s
    refine wpAny_bind (wpAny_seqItems hS rfl ?_); show wpAny _ A.in1 (tryCatch (pyNext (Value.ref I)) _ >>= _) _ _ s
    refine wpAny_bind (wpAny_tryCatch (W.done s _ _ (hin ▸ hst) fun h2 tk2 k2 => ?_)); have hS2 := k2 S _ farw hS
    show wpAny _ A.in1 (updateSeq S (fun _ => #[]) >>= _) _ _ { s with heap := h2, toks := tk2 }
    refine wpAny_bind ?_; refine wpAny_updateSeq hS2 rfl (wpAny_bind (wpAny_letGo (wpAny_pure (fin best _ tk2 ?_ (kp.more k2).put))))
    rw [← hin]; exact hb
  | succ m ih =>
    intro j s best c hm hj hst hb kp hS fin
    have hlt : j + 1 < n := by omega
    refine codeAny_builtin PySem.F.entry_min_loop ?_; rw [Around.under_plainId PySem.F.plain_min_loop _]
    show wpAny _ A.in1 (seqItems? (Value.ref S) >>= _) _ _ s
    refine wpAny_bind (wpAny_seqItems hS rfl ?_); show wpAny _ A.in1 (tryCatch (pyNext (Value.ref I)) _ >>= _) _ _ s
    refine wpAny_bind (wpAny_tryCatch (W.item (j + 1) s _ _ hlt hst fun x h2 tk2 hx hst2 k2 => ?_)); have hS2 := k2 S _ farw hS
    have kp2 := kp.more k2
    show wpAny _ A.in1 (tryCatch (holding [x, x] (richCompare .Lt x best >>= _)) _ >>= _) _ _ { s with heap := h2, toks := tk2 }
    refine wpAny_bind (wpAny_tryCatch (wpAny_holding (wpAny_bind (less _ (j + 1) (argBest bt j) x best _ _ kp2 hx hb ?_)))); refine wpAny_bind (wpAny_holding (wpAny_truthy_bool ?_))
    refine wpAny_bind (wpAny_letGo (wpAny_pure ?_)); cases he : bt (j + 1) (argBest bt j) with
    | true =>
      simp only [if_true]; refine wpAny_bind ?_; refine wpAny_updateSeq hS2 rfl (wpAny_bind (wpAny_letGo ?_)); rw [nm]
      refine wpAny_pure ⟨plainId_quiet PySem.F.plain_min_loop _, ih (j + 1) _ x _ (by omega) hlt (W.frame _ _ _ hst2 fun b hbf o e => ?_) ?_ kp2.put (Heap.get?_update_self _ hS2 rfl) fin⟩
      · exact (Heap.get?_update_other _ _ (fun z : S = b => far (z ▸ hbf))).trans e
      · simp only [argBest, he, if_true]; exact hx
    | false =>
      simp only [Bool.false_eq_true, if_false]; refine wpAny_bind (wpAny_letGo ?_); rw [nm]
      refine wpAny_pure ⟨plainId_quiet PySem.F.plain_min_loop _, ih (j + 1) _ best c (by omega) hlt hst2 ?_ kp2 hS2 fin⟩
      simp only [argBest, he, Bool.false_eq_true, if_false]; exact hb
theorem min_begin (W : Walks prog w A.in1 I fp wr n P St) (bt : Nat → Nat → Bool) (S : Addr) (far : S ∉ fp) (kw : List (Str × Value)) {s : Shared} {c : Nat}
    (less : ∀ (t : Shared) (i j : Nat) (x y : Value) (Q E : Value → Shared → Prop), KeepsB wr S s.heap t.heap → P i x → P j y → Q (.bool (bt i j)) t → wpAny (model prog w) A.in1 (richCompare .Lt x y) Q E t)
    (hn : 0 < n) (hst : St 0 s.heap) (hS : s.heap.get? S = some { cls := .type "list", dict := none, data := .seq #[] c, slots := #[] })
    (fin : ∀ v h' tk, P (argBest bt (n - 1)) v → KeepsB wr S s.heap h' → R (.ok (.ret v)) { s with heap := h', toks := tk }) : codeAny (model prog w) A (.builtin "min.loop" ⟨[.ref I, .none, .ref S], kw⟩) R s := by
  have farw : S ∉ wr := fun h => far (W.sub _ h)
  have nm : (toString "min" ++ toString ".loop" : String) = "min.loop" := by decide
  have kp : KeepsB wr S s.heap s.heap := fun _ _ _ _ e => e
  refine codeAny_builtin PySem.F.entry_min_loop ?_; rw [Around.under_plainId PySem.F.plain_min_loop _]
  show wpAny _ A.in1 (seqItems? (Value.ref S) >>= _) _ _ s
  refine wpAny_bind (wpAny_seqItems hS rfl ?_); show wpAny _ A.in1 (tryCatch (pyNext (Value.ref I)) _ >>= _) _ _ s
  refine wpAny_bind (wpAny_tryCatch (W.item 0 s _ _ hn hst fun x h2 tk2 hx hst2 k2 => ?_)); have hS2 := k2 S _ farw hS
  show wpAny _ A.in1 (updateSeq S (fun _ => #[x, x]) >>= _) _ _ { s with heap := h2, toks := tk2 }
  refine wpAny_bind ?_; refine wpAny_updateSeq hS2 rfl ?_; rw [nm]
  refine wpAny_pure ⟨plainId_quiet PySem.F.plain_min_loop _, min_turns W bt S far kw s.heap less _ 0 _ x _ rfl hn (W.frame _ _ _ hst2 fun b hbf o e => ?_) hx (kp.more k2).put (Heap.get?_update_self _ hS2 rfl) fin⟩
  exact (Heap.get?_update_other _ _ (fun z : S = b => far (z ▸ hbf))).trans e
end
section
variable {prog : Program} {w : World} {A : Around} {E : Value → Shared → Prop} {s : Shared}
/-- min(l), l a list, where comparing needs the heap -/
theorem min_listH {l : Addr} {items : Array Value} {Q : Value → Shared → Prop} (bt : Nat → Nat → Bool) (hh : A.handled = none) (hl : s.heap.IsList l items) (hn : 0 < items.size)
    (less : ∀ (t : Shared) (i j : Nat) (x y : Value) (Q E : Value → Shared → Prop), (∀ b o, s.heap.get? b = some o → t.heap.get? b = some o) → items[i]? = some x → items[j]? = some y → Q (.bool (bt i j)) t → wpAny (model prog w) A.in1 (richCompare .Lt x y) Q E t)
    (fin : ∀ v h' tk, items[argBest bt (items.size - 1)]? = some v → (∀ b o, s.heap.get? b = some o → h'.get? b = some o) → Q v { s with heap := h', toks := tk }) : wpAny (model prog w) A (call (.builtin "min") [.ref l]) Q E s := by
  have nm : (toString "min" ++ toString ".loop" : String) = "min.loop" := by decide
  have nl : l ≠ s.heap.objs.size := Nat.ne_of_lt (by obtain ⟨o, e, _⟩ := id hl; exact Heap.lt_size e)
  refine call_function_tree PySem.F.kind_min PySem.F.plain_min PySem.F.entry_min (PySem.F.args_min1 _) ?_
  show wpAny _ A.in1 (Builtin.Builtins.bindParams "min" ["key", "default"] 0 ⟨[], []⟩ >>= _) _ _ s
  refine wpAny_bind (wpAny_of_eq (show Builtin.Builtins.bindParams "min" ["key", "default"] 0 ⟨[], []⟩ = pure [none, none] from rfl) (wpAny_bind (wpAny_pure (wpAny_bind (wpAny_pyIter_list hl ?_)))))
  refine wpAny_bind (wpAny_newObj_type ?_); rw [nm]
  have hit : (s.heap.push { cls := .type "list_iterator", data := .fields #[.ref l, .int 0 0] }).IsListIter s.heap.objs.size l 0 := ⟨_, Heap.get?_push_size _ rfl, rfl, rfl⟩
  have sz : (s.heap.push { cls := .type "list_iterator", data := .fields #[.ref l, .int 0 0] }).objs.size = s.heap.objs.size + 1 := by simp [Heap.push]
  have old : ∀ {h : Heap}, KeepsB [s.heap.objs.size] (s.heap.push { cls := .type "list_iterator", data := .fields #[.ref l, .int 0 0] }).objs.size ((s.heap.push { cls := .type "list_iterator", data := .fields #[.ref l, .int 0 0] }).push { cls := .type "list", data := .seq #[] }) h → ∀ b o, s.heap.get? b = some o → h.get? b = some o := fun k b o e =>
    k b o (by rw [List.mem_singleton]; exact Nat.ne_of_lt (Heap.lt_size e)) (by rw [sz]; exact Nat.ne_of_lt (Nat.lt_succ_of_lt (Heap.lt_size e))) (Heap.get?_push_of_some _ (Heap.get?_push_of_some _ e))
  refine wpAny_pure ⟨plainId_quiet PySem.F.plain_min_loop _, min_begin (Walks.list (A := A.in1) hh s.heap.objs.size l nl items) bt (s.heap.push { cls := .type "list_iterator", data := .fields #[.ref l, .int 0 0] }).objs.size ?_ [] (fun t i j x y Q E k => less t i j x y Q E (old k)) hn
    ⟨hit.at fun o e => Heap.get?_push_of_some _ e, (hl.push _).push _⟩ (Heap.get?_push_size _ rfl) fun v h' tk hv k => fin v h' tk hv (old k)⟩
  rw [sz, List.mem_cons, List.mem_singleton, not_or]
  exact ⟨Nat.succ_ne_self _, fun z => by
    obtain ⟨o, e, _⟩ := id hl
    exact absurd (Heap.lt_size e) (by rw [← z]; exact Nat.not_lt.mpr (Nat.le_succ _))⟩
end
/-! ### built-in calls -/
section
variable {X : Cx}
def uMax (K : PySem.W.Frag) : List V → Hp → VK → Prop := fun xs H Q => (∃ i j, xs = [.int i, .int j] ∧ Q (.int (if j > i then j else i)) H) ∨ rMax K xs H Q
def uMin (K : PySem.W.Frag) : List V → Hp → VK → Prop := fun xs H Q => (∃ i j, xs = [.int i, .int j] ∧ Q (.int (if j < i then j else i)) H) ∨ rMin K xs H Q
def uList (K : PySem.W.Frag) : List V → Hp → VK → Prop := fun xs H Q => (∃ p ys, xs = [.ref p] ∧ (SqL K H p ys ∨ SqT K H p ys) ∧ ∀ l, H l = none → Q (.ref l) (upd H l (.lst ys))) ∨ rListD xs H Q
theorem ct_list (hc : X.calm = true := by rfl) : CallR X (.type "list") (uList X.K) := call_list_of.or (call_list_dK hc)
def uTup (K : PySem.W.Frag) : List V → Hp → VK → Prop := fun xs H Q => ∃ x, xs = [x] ∧ kTup K x H Q
def uInt : List V → Hp → VK → Prop := fun xs H Q => (∃ i, xs = [.int i] ∧ Q (.int i) H) ∨ ∃ k, xs = [.bl k] ∧ Q (.int (if k then 1 else 0)) H
theorem bt_max : bootBuiltins "max" = some (.builtin "max") := by decide +kernel
theorem bt_min : bootBuiltins "min" = some (.builtin "min") := by decide +kernel
def uLen (K : PySem.W.Frag) : List V → Hp → VK → Prop := fun xs H Q => (∃ p ys, xs = [.ref p] ∧ (SqL K H p ys ∨ SqT K H p ys) ∧ Q (.int ys.length) H) ∨ ((∃ z, xs = [.str z] ∧ z.length ≤ sizeLine ∧ Q (.int z.length) H) ∨ (∃ a kvs, xs = [V.ref a] ∧ H a = some (.dK kvs) ∧ Q (.int kvs.length) H))
theorem cr_ulen : CallR X (.builtin "len") (uLen X.K) := call_len_seq.or (call_len_str.or call_lenD)
def uIsi (K : PySem.W.Frag) : List V → Hp → VK → Prop := rIsi K
theorem cr_uisinstance : CallR X (.builtin "isinstance") (uIsi X.K) := call_isi
def uStr : List V → Hp → VK → Prop := fun xs H Q => ∃ i, xs = [.int i] ∧ i.natAbs.log2 < 1920 ∧ Q (.str (toString i)) H
theorem bt_isinstance : bootBuiltins "isinstance" = some (.builtin "isinstance") := by decide +kernel
theorem bt_int : bootBuiltins "int" = some (.type "int") := by decide +kernel
theorem bt_bool : bootBuiltins "bool" = some (.type "bool") := by decide +kernel
theorem bt_ValueError : bootBuiltins "ValueError" = some (.type "ValueError") := by decide +kernel
theorem bt_list : bootBuiltins "list" = some (.type "list") := by decide +kernel
theorem bt_len : bootBuiltins "len" = some (.builtin "len") := by decide +kernel
end
section
variable {σ : L2.St} {H : Hp} {K : PySem.W.Frag} {Q : VK} {p : Addr} {xs : List V} {n : Int} {v : V}
theorem x_lenL (h : SqL K H p xs) (q : Q (.int xs.length) H) : uLen K [.ref p] H Q := .inl ⟨p, xs, rfl, .inl h, q⟩
theorem x_lenM {α : Type} {l : List α} {f : α → V} (h : SqL K H p (l.map f)) (q : Q (.int l.length) H) : uLen K [.ref p] H Q := .inl ⟨p, _, rfl, .inl h, by rw [List.length_map]; exact q⟩
theorem x_lenT (h : SqT K H p xs) (q : Q (.int xs.length) H) : uLen K [.ref p] H Q := .inl ⟨p, xs, rfl, .inr h, q⟩
/-- the built-in class of a value -/
def tyN : V → Option String
  | .non => some "NoneType" | .bl _ => some "bool" | .int _ => some "int" | .str _ => some "str" | .flt _ => some "float" | _ => none
theorem x_isiV {c : String} {t : String} {b : Bool} (ht : tyN v = some t) (hk : kitB t c = some b) (q : Q (.bl b) H) : uIsi K [v, .ty c] H Q := by
  have ty : TyX K H v (.type t) := by
    cases v <;> simp only [tyN, Option.some.injEq, reduceCtorEq] at ht <;> subst ht
    · exact .base .non
    · exact .base (.bl _)
    · exact .base (.int _)
    · exact .base (.str _)
    · exact .base (.flt _)
  exact ⟨v, .ty c, .type t, .type c, b, rfl, .ty c, ty, kit_ty hk, q⟩
theorem x_isiR {c t : String} {b : Bool} (ty : TyX K H (.ref p) (.type t)) (hk : kitB t c = some b) (q : Q (.bl b) H) : uIsi K [.ref p, .ty c] H Q :=
  ⟨.ref p, .ty c, .type t, .type c, b, rfl, .ty c, ty, kit_ty hk, q⟩
theorem x_isiNon_int (q : Q (.bl false) H) : uIsi K [V.non, .ty "int"] H Q := x_isiV rfl (by decide +kernel) q
theorem x_isiNon_bool (q : Q (.bl false) H) : uIsi K [V.non, .ty "bool"] H Q := x_isiV rfl (by decide +kernel) q
theorem x_isiNon_str (q : Q (.bl false) H) : uIsi K [V.non, .ty "str"] H Q := x_isiV rfl (by decide +kernel) q
theorem x_isiNon_list (q : Q (.bl false) H) : uIsi K [V.non, .ty "list"] H Q := x_isiV rfl (by decide +kernel) q
theorem x_isiNon_tuple (q : Q (.bl false) H) : uIsi K [V.non, .ty "tuple"] H Q := x_isiV rfl (by decide +kernel) q
theorem x_isiNon_dict (q : Q (.bl false) H) : uIsi K [V.non, .ty "dict"] H Q := x_isiV rfl (by decide +kernel) q
theorem x_isiBl_int {b : Bool} (q : Q (.bl true) H) : uIsi K [(V.bl b), .ty "int"] H Q := x_isiV rfl (by decide +kernel) q
theorem x_isiBl_bool {b : Bool} (q : Q (.bl true) H) : uIsi K [(V.bl b), .ty "bool"] H Q := x_isiV rfl (by decide +kernel) q
theorem x_isiBl_str {b : Bool} (q : Q (.bl false) H) : uIsi K [(V.bl b), .ty "str"] H Q := x_isiV rfl (by decide +kernel) q
theorem x_isiBl_list {b : Bool} (q : Q (.bl false) H) : uIsi K [(V.bl b), .ty "list"] H Q := x_isiV rfl (by decide +kernel) q
theorem x_isiBl_tuple {b : Bool} (q : Q (.bl false) H) : uIsi K [(V.bl b), .ty "tuple"] H Q := x_isiV rfl (by decide +kernel) q
theorem x_isiBl_dict {b : Bool} (q : Q (.bl false) H) : uIsi K [(V.bl b), .ty "dict"] H Q := x_isiV rfl (by decide +kernel) q
theorem x_isiInt_int (q : Q (.bl true) H) : uIsi K [(V.int n), .ty "int"] H Q := x_isiV rfl (by decide +kernel) q
theorem x_isiInt_bool (q : Q (.bl false) H) : uIsi K [(V.int n), .ty "bool"] H Q := x_isiV rfl (by decide +kernel) q
theorem x_isiInt_str (q : Q (.bl false) H) : uIsi K [(V.int n), .ty "str"] H Q := x_isiV rfl (by decide +kernel) q
theorem x_isiInt_list (q : Q (.bl false) H) : uIsi K [(V.int n), .ty "list"] H Q := x_isiV rfl (by decide +kernel) q
theorem x_isiInt_tuple (q : Q (.bl false) H) : uIsi K [(V.int n), .ty "tuple"] H Q := x_isiV rfl (by decide +kernel) q
theorem x_isiInt_dict (q : Q (.bl false) H) : uIsi K [(V.int n), .ty "dict"] H Q := x_isiV rfl (by decide +kernel) q
theorem x_isiStr_int {z : Str} (q : Q (.bl false) H) : uIsi K [(V.str z), .ty "int"] H Q := x_isiV rfl (by decide +kernel) q
theorem x_isiStr_bool {z : Str} (q : Q (.bl false) H) : uIsi K [(V.str z), .ty "bool"] H Q := x_isiV rfl (by decide +kernel) q
theorem x_isiStr_str {z : Str} (q : Q (.bl true) H) : uIsi K [(V.str z), .ty "str"] H Q := x_isiV rfl (by decide +kernel) q
theorem x_isiStr_list {z : Str} (q : Q (.bl false) H) : uIsi K [(V.str z), .ty "list"] H Q := x_isiV rfl (by decide +kernel) q
theorem x_isiStr_tuple {z : Str} (q : Q (.bl false) H) : uIsi K [(V.str z), .ty "tuple"] H Q := x_isiV rfl (by decide +kernel) q
theorem x_isiStr_dict {z : Str} (q : Q (.bl false) H) : uIsi K [(V.str z), .ty "dict"] H Q := x_isiV rfl (by decide +kernel) q
theorem x_isiLst_int (h : H p = some (.lst xs)) (q : Q (.bl false) H) : uIsi K [.ref p, .ty "int"] H Q := x_isiR (.base (.lst h)) (by decide +kernel) q
theorem x_isiLst_bool (h : H p = some (.lst xs)) (q : Q (.bl false) H) : uIsi K [.ref p, .ty "bool"] H Q := x_isiR (.base (.lst h)) (by decide +kernel) q
theorem x_isiLst_str (h : H p = some (.lst xs)) (q : Q (.bl false) H) : uIsi K [.ref p, .ty "str"] H Q := x_isiR (.base (.lst h)) (by decide +kernel) q
theorem x_isiLst_list (h : H p = some (.lst xs)) (q : Q (.bl true) H) : uIsi K [.ref p, .ty "list"] H Q := x_isiR (.base (.lst h)) (by decide +kernel) q
theorem x_isiLst_tuple (h : H p = some (.lst xs)) (q : Q (.bl false) H) : uIsi K [.ref p, .ty "tuple"] H Q := x_isiR (.base (.lst h)) (by decide +kernel) q
theorem x_isiLst_dict (h : H p = some (.lst xs)) (q : Q (.bl false) H) : uIsi K [.ref p, .ty "dict"] H Q := x_isiR (.base (.lst h)) (by decide +kernel) q
theorem x_isiTup_int (h : H p = some (.tup xs)) (q : Q (.bl false) H) : uIsi K [.ref p, .ty "int"] H Q := x_isiR (.base (.tup h)) (by decide +kernel) q
theorem x_isiTup_bool (h : H p = some (.tup xs)) (q : Q (.bl false) H) : uIsi K [.ref p, .ty "bool"] H Q := x_isiR (.base (.tup h)) (by decide +kernel) q
theorem x_isiTup_str (h : H p = some (.tup xs)) (q : Q (.bl false) H) : uIsi K [.ref p, .ty "str"] H Q := x_isiR (.base (.tup h)) (by decide +kernel) q
theorem x_isiTup_list (h : H p = some (.tup xs)) (q : Q (.bl false) H) : uIsi K [.ref p, .ty "list"] H Q := x_isiR (.base (.tup h)) (by decide +kernel) q
theorem x_isiTup_tuple (h : H p = some (.tup xs)) (q : Q (.bl true) H) : uIsi K [.ref p, .ty "tuple"] H Q := x_isiR (.base (.tup h)) (by decide +kernel) q
theorem x_isiTup_dict (h : H p = some (.tup xs)) (q : Q (.bl false) H) : uIsi K [.ref p, .ty "dict"] H Q := x_isiR (.base (.tup h)) (by decide +kernel) q
theorem x_isiDk_int {kvs : List (Key × V)} (h : H p = some (.dK kvs)) (q : Q (.bl false) H) : uIsi K [.ref p, .ty "int"] H Q := x_isiR (.base (.dK h)) (by decide +kernel) q
theorem x_isiDk_bool {kvs : List (Key × V)} (h : H p = some (.dK kvs)) (q : Q (.bl false) H) : uIsi K [.ref p, .ty "bool"] H Q := x_isiR (.base (.dK h)) (by decide +kernel) q
theorem x_isiDk_str {kvs : List (Key × V)} (h : H p = some (.dK kvs)) (q : Q (.bl false) H) : uIsi K [.ref p, .ty "str"] H Q := x_isiR (.base (.dK h)) (by decide +kernel) q
theorem x_isiDk_list {kvs : List (Key × V)} (h : H p = some (.dK kvs)) (q : Q (.bl false) H) : uIsi K [.ref p, .ty "list"] H Q := x_isiR (.base (.dK h)) (by decide +kernel) q
theorem x_isiDk_tuple {kvs : List (Key × V)} (h : H p = some (.dK kvs)) (q : Q (.bl false) H) : uIsi K [.ref p, .ty "tuple"] H Q := x_isiR (.base (.dK h)) (by decide +kernel) q
theorem x_isiDk_dict {kvs : List (Key × V)} (h : H p = some (.dK kvs)) (q : Q (.bl true) H) : uIsi K [.ref p, .ty "dict"] H Q := x_isiR (.base (.dK h)) (by decide +kernel) q
theorem x_intB {b : Bool} (q : Q (.int (if b then 1 else 0)) H) : uInt [.bl b] H Q := .inr ⟨b, rfl, q⟩
theorem x_intI {m : Int} (q : Q (.int m) H) : uInt [.int m] H Q := .inl ⟨m, rfl, q⟩
theorem x_max2 {m n : Int} (q : Q (.int (if n > m then n else m)) H) : uMax K [.int m, .int n] H Q := .inl ⟨m, n, rfl, q⟩
theorem x_min2 {m n : Int} (q : Q (.int (if n < m then n else m)) H) : uMin K [.int m, .int n] H Q := .inl ⟨m, n, rfl, q⟩
theorem x_list (h : SqL K H p xs) (q : New H Q (.lst xs)) : uList K [.ref p] H Q := .inl ⟨p, xs, rfl, .inl h, q.mk⟩
theorem x_tupL (h : SqL K H p xs) (q : New H Q (.tup xs)) : uTup K [.ref p] H Q := ⟨_, rfl, .inl ⟨p, xs, rfl, h, q.mk⟩⟩
theorem x_listD {kvs : List (L2.Key × V)} (h : H p = some (.dK kvs)) (q : New H Q (.lst (kvs.map fun kv => kV kv.1))) : uList K [.ref p] H Q := .inr ⟨p, kvs, rfl, h, q.mk⟩
theorem x_lenD {kvs : List (L2.Key × V)} (h : H p = some (.dK kvs)) (q : Q (.int kvs.length) H) : uLen K [.ref p] H Q := .inr (.inr ⟨p, kvs, rfl, h, q⟩)
theorem x_str (q : Q (.str (toString n)) H) (h : n.natAbs.log2 < 1920) : uStr [.int n] H Q := ⟨n, rfl, h, q⟩
end
/-! ### the same rules where K is told (inside a comprehension) -/
section
variable {X : Cx} {K : PySem.W.Frag} {a b e : Expr} {rest : List Expr} {ta tb : TE} {pos : Pos} {f : Str}
theorem K_ix (hK : X.K = K := by rfl) : IxR X (rIx K) := hK ▸ ix_seq
theorem K_add (hK : X.K = K := by rfl) : OpR X (binaryOp .Add) (uAdd K) := hK ▸ op_uAdd
theorem K_eq (hu : X.A.units + 64 < cLine) (hK : X.K = K := by rfl) : OpR X (compareOp .Eq) (uEq K) := hK ▸ op_uEq hu
theorem K_gtup {K : PySem.W.Frag} {es : List Expr} {k : Nat} {ts : TGs} {n : Nat} {pos : Pos} (hc : X.calm = true) (h : PGs X es ts) (hn : (assignEach es X.env).length = n := by rfl) (hst : (assignEach es X.env).findIdx? (·.1) = none := by rfl) (hK : X.K = K := by rfl) : PG X (.Tuple es k pos) (gTup K n ts) := hK ▸ pg_tup hc h hn hst
end
/-! sorted(d.items()), d a dict from whole numbers to whole numbers -/
/-! ### min(xs, default=d), max(xs, default=d); Base.__init__(self, ..) -/
section
theorem alike_ints (ns : List Int) : PySem.W.AlikeAll (ns.map PyData.int) := by
  constructor
  · intro x hx y hy
    obtain ⟨a, _, rfl⟩ := List.mem_map.mp hx
    obtain ⟨b, _, rfl⟩ := List.mem_map.mp hy
    rfl
  · intro x hx
    obtain ⟨a, _, rfl⟩ := List.mem_map.mp hx
    exact fun z => nomatch z
theorem depth_ints : ∀ ns : List Int, PyData.depthAll (ns.map PyData.int) = 0
  | [] => by simp [PyData.depthAll]
  | n :: ns => by
    rw [List.map_cons, PyData.depthAll, depth_ints ns]
    simp [PyData.depth]
end
/-! isinstance(x, C) of an own instance -/
/-! ### a caught exception as an object that is tracked -/
section
/-- the object at a is oe -/
def PinO (a : Addr) (oe : Obj) : HO := .ext fun h => h.get? a = some oe
theorem pinO_ok {P : Program} {w : World} {H : Hp} {h : Heap} {a : Addr} {oe : Obj} (e : h.get? a = some oe) : ObjOk P w H h a (PinO a oe) := ⟨e, ⟨oe, e⟩, fun _ _ q k => k oe q⟩
/-- an exception of the class cls, its own dict at d -/
def ExV (H : Hp) (a : Addr) (cls : Value) (d : Option Addr) : Prop := ∃ oe, H a = some (PinO a oe) ∧ Zc cls d oe ∧ ∃ vs, oe.data = .fields vs
theorem ExV.mono {H H' : Hp} {a : Addr} {cls : Value} {d : Option Addr} (s : Same H H') (h : ExV H a cls d) : ExV H' a cls d := by
  obtain ⟨oe, e, r⟩ := h
  exact ⟨oe, s _ _ e, r⟩
variable {X : Cx} {pins : List (Addr × Obj)} {σ : L2.St} {H : Hp} {s sI : Shared}
end
section
variable {X : Cx} {x n : Str} {c : Value} {i : Nat} {body suite : List Stmt} {b₀ : Stmt} {np pos pos' : Pos} {tb : WX → TS} {ts : TS} {Wout : WX}
def wAsK (K : PySem.W.Frag) (c : Value) (i : Nat) (ts : TS) (Wout : WX) (D : Ends) : WX := fun cls d σ H =>
  ∃ b, PySem.W.exmOne K cls c = some b ∧ (b = true → ∀ a oe, H a = none → Zc cls d oe → (∃ vs, oe.data = .fields vs) → ts { nx := fun σ' H' => D.nx (σ'.set i none) H', rt := D.rt, bk := fun σ' H' => D.bk (σ'.set i none) H', ct := fun σ' H' => D.ct (σ'.set i none) H' } (σ.set i (some (.ref a))) (upd H a (PinO a oe))) ∧
    (b = false → Wout cls d σ H)
def tTryK (K : PySem.W.Frag) (c : Value) (i : Nat) (tb : WX → TS) (ts : TS) (Wout : WX) : TS := fun D σ H => tb (wAsK K c i ts Wout D) D σ H
variable {K : PySem.W.Frag} {D : Ends} {σ : L2.St} {H : Hp} {cls : Value} {d : Option Addr}
theorem x_tryK (h : tb (wAsK K c i ts Wout D) D σ H) : tTryK K c i tb ts Wout D σ H := h
theorem x_seqTK {u : TS} (h : tTryK K c i tb ts Wout { D with nx := u D } σ H) : tSeq (tTryK K c i tb ts Wout) u D σ H := h
end
/-! a def that is called in an except suite -/
section
open L2H
variable {X : Cx} {CX : CXT} {k : Nat} {f : Addr} {fd : FuncData} {ps : List Str} {sp : Sp} {E : L2.St → XK} {x : Str} {q pos : Pos} {e : Expr} {es : List Expr} {t : TA}
/-- isinstance(e, c), e an exception without fields that is tracked -/
def rIsV (K : PySem.W.Frag) : List V → Hp → VK → Prop := fun xs H Q => ∃ (a E : Addr) (c : V) (cv : Value) (b : Bool), xs = [.ref a, c] ∧ ExV H a (.ref E) none ∧ ExcC K E ∧ (∀ u, RelV c u → u = cv) ∧ PySem.W.kitOne K (.ref E) cv = some b ∧ Q (.bl b) H
variable {K : PySem.W.Frag} {H : Hp} {Q : VK} {a : Addr}
theorem _root_.L2.Room.suite {j k : Nat} {A : Around} {x : Option Value} (r : Room k A) (h : j ≤ k) : RoomH j (A.mark x) := ⟨(r.mono h).dp, (r.mono h).un⟩
theorem ExV.off1 {H H' : Hp} {a p : Addr} {cls : Value} {d : Option Addr} (s : Off [p] H H') (h : ExV H a cls d) (n : a ≠ p) : ExV H' a cls d := by
  obtain ⟨oe, e, r⟩ := h
  exact ⟨oe, s.at e (nin_of n), r⟩
theorem x_isVC {E C : Addr} {b : Bool} (h : ExV H a (.ref E) none) (hE : ExcC K E) (hk : PySem.W.kitOne K (.ref E) (.ref C) = some b) (q : Q (.bl b) H) : rIsV K [.ref a, .ref C] H Q := ⟨a, E, _, .ref C, b, rfl, h, hE, fun _ z => z, hk, q⟩
theorem x_isVT {E : Addr} {t : String} {b : Bool} (h : ExV H a (.ref E) none) (hE : ExcC K E) (hk : PySem.W.kitOne K (.ref E) (.type t) = some b) (q : Q (.bl b) H) : rIsV K [.ref a, .ty t] H Q := ⟨a, E, _, .type t, b, rfl, h, hE, fun _ z => z, hk, q⟩
end
end Kit
/-! ### the head's facts, read by a Hook of one's own -/
namespace Kit
open PySem PySem.Spec PyProof.Rows L2
section
abbrev FnWK : Type := Bool × List He.FnW
/-- lists of numbers, a part of the heap: told when they are made -/
def frList {α : Type} : List Addr → (List Addr → α) → α
  | [], k => k []
  | a :: r, k => HandSHeadRun.frNat a fun a => frList r fun r => k (a :: r)
theorem frList_eq {α : Type} : ∀ (l : List Addr) (k : List Addr → α), frList l k = k l
  | [], _ => rfl
  | a :: r, k => by
    show HandSHeadRun.frNat a (fun a => frList r fun r => k (a :: r)) = _
    rw [HandSHeadRun.frNat_eq, frList_eq r]
def frFr {α : Type} (g : Addr → Option Obj) : List Addr → (PySem.W.Frag → α) → α
  | [], k => k []
  | a :: r, k => match g a with
    | some ⟨c, d, dt, sl⟩ => frFr g r fun F => k ((a, ⟨c, d, dt, sl⟩) :: F)
    | none => frFr g r k
theorem frFr_eq {α : Type} {g : Addr → Option Obj} : ∀ (l : List Addr) (k : PySem.W.Frag → α), frFr g l k = k (He.frG g l)
  | [], _ => rfl
  | a :: r, k => by
    unfold frFr He.frG
    rw [List.filterMap_cons]
    cases h : g a with
    | none => exact frFr_eq r k
    | some o =>
      obtain ⟨c, d, dt, sl⟩ := o
      exact frFr_eq r _
/-- a def: its place in the list of addresses, its text -/
structure DefK where
  i : Nat
  name : Str
  qual : Str
  params : Arguments
  body : List Stmt
  scope : Scope
  dfl : List He.Dv := []
def fnKW (K : PySem.W.Frag) (a : Addr) : He.FnW := match K.lookup a with
  | some ⟨_, _, .func fd, _⟩ => some (fd.name, fd.qualname, fd.params, fd.body, fd.scope, fd.globals, fd.closure, fd.builtins)
  | _ => none
def DefK.val (d : DefK) : He.FnW := some (d.name, d.qual, d.params, .stmts d.body, d.scope, mainGlobals, [], builtinsNs)
def DefK.dvs (K : PySem.W.Frag) (d : DefK) : List V := d.dfl.map (He.Dv.v K)
def DefK.ok (K : PySem.W.Frag) (A : List Addr) (d : DefK) : Bool := PySem.W.keepIn K (.ref (A.getD d.i 0)) && (match K.lookup (A.getD d.i 0) with
  | some ⟨_, _, .func fd, _⟩ => PySem.W.codeIn K fd.code d.qual && (He.dflB K fd.defaults (d.dvs K) && He.kwdB K fd.kwdefaults [])
  | _ => false)
theorem DefK.funD {K : PySem.W.Frag} {A : List Addr} {d : DefK} (e : fnKW K (A.getD d.i 0) = d.val) (c : d.ok K A = true) : ∃ fd, FunD K d.name d.qual d.params d.body d.scope (d.dvs K) [] (A.getD d.i 0) fd := by
  obtain ⟨kp, c2⟩ := He.ba c
  unfold fnKW at e
  cases q : K.lookup (A.getD d.i 0) with
  | none =>
    rw [q] at c2
    cases c2
  | some o =>
    obtain ⟨oc, od, dt, osl⟩ := o
    rw [q] at c2 e
    cases dt with
    | func fd =>
      obtain ⟨n1, n2, n3, n4, n5, n6, n7, n8, n9, n10, n11, n12, n13, n14, n15⟩ := fd
      have e2 : (some (n1, n2, n3, n4, n5, n6, n7, n15) : He.FnW) = some (d.name, d.qual, d.params, .stmts d.body, d.scope, mainGlobals, [], builtinsNs) := e
      simp only [Option.some.injEq, Prod.mk.injEq] at e2
      obtain ⟨h1, h2, h3, h4, h5, h6, h7, h8⟩ := e2
      subst h1 h2 h3 h4 h5 h6 h7 h8
      have c3 : (PySem.W.codeIn K n13 d.qual && (He.dflB K n8 (d.dvs K) && He.kwdB K n9 [])) = true := c2
      obtain ⟨k1, k2⟩ := He.ba c3
      obtain ⟨k3, k4⟩ := He.ba k2
      exact ⟨_, ⟨oc, od, n8, n9, n10, n11, n12, n13, n14, osl, rfl, q, k1, He.dflB_ok k3, He.kwdB_ok k4⟩, kp⟩
    | _ => cases c2
abbrev FsK : Type := PySem.W.Frag → List Addr → Bool
def obsK (fs : FsK) (fn : List DefK) (K : PySem.W.Frag) (A : List Addr) : FnWK := (fs K A && fn.all fun d => d.ok K A, fn.map fun d => fnKW K (A.getD d.i 0))
def valK (fn : List DefK) : FnWK := (true, fn.map DefK.val)
def SaysK (fs : FsK) (fn : List DefK) (K : PySem.W.Frag) (A : List Addr) : Prop := obsK fs fn K A = valK fn
variable {fs : FsK} {fn : List DefK} {K : PySem.W.Frag} {A : List Addr}
theorem SaysK.facts (c : SaysK fs fn K A) : fs K A = true := (He.ba (show (fs K A && fn.all fun d => d.ok K A) = true from congrArg (fun z : FnWK => z.1) c)).1
theorem SaysK.def_ (c : SaysK fs fn K A) (i : Nat) {d : DefK} (h : fn[i]? = some d := by rfl) : ∃ fd, FunD K d.name d.qual d.params d.body d.scope (d.dvs K) [] (A.getD d.i 0) fd := by
  have c2 := (He.ba (show (fs K A && fn.all fun d => d.ok K A) = true from congrArg (fun z : FnWK => z.1) c)).2
  have e : fn.map (fun d => fnKW K (A.getD d.i 0)) = fn.map DefK.val := congrArg (fun z : FnWK => z.2) c
  have e2 : (fn.map fun d => fnKW K (A.getD d.i 0))[i]? = (fn.map DefK.val)[i]? := by rw [e]
  rw [List.getElem?_map, List.getElem?_map, h] at e2
  exact DefK.funD (Option.some.inj e2) (List.all_eq_true.mp c2 d (List.mem_of_getElem? h))
/-! addresses of the program's objects -/
def gK (g : Addr → Option Obj) (x : Str) : Addr := match PySem.W.nsIn (He.frG g [mainGlobals]) mainGlobals x with
  | some (some (.ref a)) => a
  | _ => 0
def nsK (g : Addr → Option Obj) (a : Addr) : Addr := match g a with
  | some ⟨_, _, .cls cd, _⟩ => cd.ns
  | _ => 0
def mK (g : Addr → Option Obj) (c m : Str) : Addr := match PySem.W.nsIn (He.frG g [nsK g (gK g c)]) (nsK g (gK g c)) m with
  | some (some (.ref a)) => a
  | _ => 0
def cdK (g : Addr → Option Obj) (a : Addr) : Addr := match g a with
  | some ⟨_, _, .func fd, _⟩ => (match fd.code with
    | .ref b => b
    | _ => 0)
  | _ => 0
theorem funK_of {x qual : Str} {st : Stmt} {f : Addr} {fd : FuncData} {kws : List (Str × V)} (F : FunD K x qual (defArgs st) (defBody st) (defScope st) [] kws f fd) : L2.Fun K x qual st f fd := by
  obtain ⟨oc, od, dV, kV, doc, pm, an, cdv, ct, osl, e, l, c, hd, _⟩ := F.ex
  rcases hd with ⟨_, e2⟩ | ⟨e2, _⟩
  · subst e2
    exact ⟨⟨oc, od, kV, doc, pm, an, cdv, ct, osl, e, l, c⟩, F.kp⟩
  · exact absurd rfl e2
end
/-! ### a list comprehension in a def that is called in an except suite (my own rule; the kit's asks for calm) -/
/-! ### a suite that raises: exceptions whose context is known (my own rules) -/
end Kit
namespace Kit
open PySem PySem.Spec PyProof.Rows L2 LamX
/-! ### a lambda that is kept, and called later -/
/-- a cell that holds a value that is known -/
def CellO (c : Addr) (v : V) : HO := .ext fun h => ∃ u, RelV v u ∧ h.IsCell c (some u)
theorem cellO_ok {P : Program} {w : World} {H : Hp} {h : Heap} {c : Addr} {v : V} {u : Value} (r : RelV v u) (e : h.IsCell c (some u)) : ObjOk P w H h c (CellO c v) :=
  ⟨⟨u, r, e⟩, let ⟨o, ho, _⟩ := e; ⟨o, ho⟩, fun _ _ ⟨u, r, o, ho, hd⟩ k => ⟨u, r, o, k o ho, hd⟩⟩
abbrev Cap := Option (Str × Addr × V)
def capL : Cap → List (Str × Addr)
  | none => []
  | some (y, c, _) => [(y, c)]
def CapAt (H : Hp) : Cap → Prop
  | none => True
  | some (_, c, v) => H c = some (CellO c v)
def capA : Cap → List Addr
  | none => []
  | some (_, c, _) => [c]
def capN : Cap → List Str
  | none => []
  | some (y, _, _) => [y]
def capV : Cap → L2.St
  | none => []
  | some (_, _, v) => [some v]
/-- a lambda at f, its code object, what it has captured -/
def LamA (H : Hp) (f c' : Addr) (qual : Str) (params : Arguments) (body : Expr) (scope : Scope) (cap : Cap) : Prop :=
  (∃ pm ctv, H f = some (PinO f (PySem.W.kla_obj "<lambda>" qual params body scope (capL cap) pm c' ctv))) ∧ H c' = some (CodeO c' qual) ∧ CapAt H cap
theorem LamA.keep {H H' : Hp} {f c' : Addr} {qual : Str} {params : Arguments} {body : Expr} {scope : Scope} {cap : Cap} (h : LamA H f c' qual params body scope cap) (k : ∀ a ∈ f :: c' :: capA cap, ∀ o, H a = some o → H' a = some o) : LamA H' f c' qual params body scope cap := by
  obtain ⟨⟨pm, ctv, a⟩, b, c⟩ := h
  refine ⟨⟨pm, ctv, k f List.mem_cons_self _ a⟩, k c' (List.mem_cons_of_mem _ List.mem_cons_self) _ b, ?_⟩
  cases cap with
  | none => trivial
  | some x => exact k x.2.1 (by simp [capA]) _ c
/-- what the lambda's names are: its parameter, what it has captured -/
structure LamSc (scope : Scope) (a : Str) (cap : Cap) : Prop where
  kind : scope.kind = .function
  co : scope.isCoroutine = false
  gen : scope.isGenerator = false
  nocell : ∀ y ∈ scope.names, y.2 ≠ .cell
  par : scope.names.lookup a = some .local
  free : ∀ y, scope.names.lookup y = some .free → y ∈ capN cap
  nfree : ∀ y ∈ capN cap, scope.names.lookup y = some .free
/-- without the captured cell -/
def cutA (H : Hp) (l : List Addr) : Hp := fun b => if b ∈ l then none else H b
def putA (H H' : Hp) (l : List Addr) : Hp := fun b => if b ∈ l then H b else H' b
theorem capA_ext {H : Hp} {cap : Cap} (h : CapAt H cap) {b : Addr} (hb : b ∈ capA cap) : ∃ v, H b = some (CellO b v) := by
  cases cap with
  | none => cases hb
  | some x =>
    rw [show b = x.2.1 from List.mem_singleton.mp hb]
    exact ⟨_, h⟩
abbrev lamE (qual : Str) (scope : Scope) (L f c' : Addr) (cap : Cap) : Env := PySem.W.envX qual scope L f (.ref c') (capL cap)
def lamC (P : Program) (w : World) (K : PySem.W.Frag) (mg : Str → Option Value) (base : Heap) (A : Around) (outer : List Env) (s : Shared) (H : Hp) (E : XK) (qual : Str) (scope : Scope) (f c' : Addr) (a : Str) (cap : Cap) : Cx where
  prog := P
  w := w
  K := K
  mg := mg
  base := base
  A := A.deeper (lamE qual scope s.heap.objs.size f c' cap)
  N := a :: capN cap
  s_0 := s
  H_0 := cutA H (capA cap)
  env := lamE qual scope s.heap.objs.size f c' cap
  outer := outer
  stack := lamE qual scope s.heap.objs.size f c' cap :: outer
  ex := []
  fn := fun _ => false
  calm := true
  pn := []
  xe := fun e s' => wpAny (model P w) (A.deeper (lamE qual scope s.heap.objs.size f c' cap)) (leaving (lamE qual scope s.heap.objs.size f c' cap) e) (fun _ s'' => L2.CX P w outer H s E e s'') (fun e' s'' => L2.CX P w outer H s E e' s'') s'
theorem hok_cut {P : Program} {w : World} {H : Hp} {h : Heap} {cap : Cap} (hc : CapAt H cap) (k : HOk P w H h) : HOk P w (cutA H (capA cap)) h := fun b o e => by
  unfold cutA at e
  split at e
  · cases e
  · have ne : ∀ {d : Addr} {u : HO}, H d = some u → (∀ φ, u ≠ .ext φ) → cutA H (capA cap) d = some u := fun {d u} e2 z => by
      unfold cutA
      rw [if_neg fun m => by
        obtain ⟨v, y⟩ := capA_ext hc m
        rw [e2] at y
        exact z _ (Option.some.inj y)]
      exact e2
    exact (k b o e).stay (fun _ _ _ z => z) (fun d z => ne z (fun φ y => by cases y)) fun d xs z => ne z (fun φ y => by cases y)
theorem lam_in {P : Program} {w : World} {K : PySem.W.Frag} {mg : Str → Option Value} {base : Heap} {A : Around} {outer : List Env} {s : Shared} {H : Hp} {E : XK} {qual : Str} {params : Arguments} {body : Expr} {scope : Scope} {f c' : Addr} {a : Str} {cap : Cap} {v : V} {u : Value} {h₁ : Heap} {tk : Nat}
    (hc : CapAt H cap) (L : LamSc scope a cap) (e0 : Env0 P w K mg base A outer s H) (hd : A.handled = none) (r : RelV v u) (hns : h₁.Ns s.heap.objs.size fun y => ([(a, u)] : List (Str × Value)).reverse.lookup y) (kp : ∀ b o, s.heap.get? b = some o → h₁.get? b = some o) :
    Inv (lamC P w K mg base A outer s H E qual scope f c' a cap) [] (some v :: capV cap) (cutA H (capA cap)) { s with heap := h₁, toks := tk } := by
  have noA : ∀ b : Addr, b ∉ (lamC P w K mg base A outer s H E qual scope f c' a cap).ex := fun b z => absurd (show b ∈ ([] : List Addr) from z) (by simp)
  have cn : ∀ {b : Addr}, H b = none → cutA H (capA cap) b = none := fun {b} e => (by
    unfold cutA
    split
    · rfl
    · exact e)
  have look : ∀ {y : Str} {d : Addr}, (capL cap).lookup y = some d → d ∈ capA cap ∧ y ∈ capN cap := fun {y d} e => by
    cases cap with
    | none => cases e
    | some x =>
      have hm := PySem.mem_of_lookup e
      have hm := List.mem_singleton.mp hm
      rw [Prod.mk.injEq] at hm
      exact ⟨by rw [hm.2]; exact List.mem_singleton.mpr rfl, by rw [hm.1]; exact List.mem_singleton.mpr rfl⟩
  have cell : ∀ {d : Addr}, d ∈ capA cap → ∃ z u', H d = some (CellO d z) ∧ RelV z u' ∧ h₁.IsCell d (some u') := fun {d} m => by
    obtain ⟨z, e⟩ := capA_ext hc m
    obtain ⟨⟨u', r', o, ho, hd'⟩, _, _⟩ := e0.hok d _ e
    exact ⟨z, u', e, r', o, kp _ _ ho, hd'⟩
  refine ⟨⟨e0.mod, L.kind, rfl, rfl, Nat.le_refl _, fun y z c e1 e2 => ?_, fun y hy => ?_, fun y c z _ => ?_, fun _ => hd, Around.frames_deeper e0.frames, .inr ⟨rfl, rfl⟩, fun b z => absurd z (noA b), fun b o e => ⟨(e0.bs b o e).1, cn (e0.bs b o e).2⟩, e0.bsz, fun b _ _ => noA b,
      fun b z => absurd z (noA b), e0.funs, fun b hb => cn (e0.frf b hb)⟩,
    rfl, e0.bare, Un.kept kp, ⟨_, hns, fun i y z e1 e2 e3 => ?_⟩, fun y c e => ?_, cn (e0.hok.fresh (Nat.le_refl _)), fun y c e => ?_, fun q hq => absurd (show q ∈ ([] : List (Addr × Obj)) ++ [] from hq) (by simp), (hok_cut hc e0.hok).kept kp, ?_⟩
  · have h1 := (look (show (capL cap).lookup y = some c from e1)).2
    have h2 := (look (show (capL cap).lookup z = some c from e2)).2
    cases cap with
    | none => cases h1
    | some x => rw [List.mem_singleton.mp h1, List.mem_singleton.mp h2]
  · have hy : scope.names.lookup y = some .cell ∨ scope.names.lookup y = some .free := hy
    rcases hy with hy | hy
    · exact absurd rfl (L.nocell _ (PySem.mem_of_lookup hy))
    · have h1 := L.free y hy
      cases cap with
      | none => cases h1
      | some x =>
        rw [List.mem_singleton.mp h1]
        exact ⟨x.2.1, by show List.lookup x.1 [(x.1, x.2.1)] = _; simp⟩
  · have z : false = true := z
    cases z
  · have e1 : (a :: capN cap)[i]? = some y := e1
    have e2 : (some v :: capV cap)[i]? = some (some z) := e2
    match i, e1, e2 with
    | 0, e1, e2 =>
      cases e1
      cases e2
      exact ⟨u, r, .inl ⟨L.par, by show List.lookup a [(a, u)] = some u; simp⟩⟩
    | j + 1, e1, e2 =>
      cases cap with
      | none => cases e2
      | some x =>
        match j, e1, e2 with
        | 0, e1, e2 =>
          have e1 : x.1 = y := Option.some.inj e1
          have e2 : x.2.2 = z := Option.some.inj (Option.some.inj e2)
          subst e1 e2
          obtain ⟨z', u', h1, h2, h3⟩ := cell (d := x.2.1) (List.mem_singleton.mpr rfl)
          have h0 : H x.2.1 = some (CellO x.2.1 x.2.2) := hc
          obtain ⟨⟨u2, r2, o2, ho2, hd2⟩, _, _⟩ := e0.hok _ _ h0
          exact ⟨u2, r2, .inr ⟨.inr (L.nfree _ (List.mem_singleton.mpr rfl)), x.2.1, by show List.lookup x.1 [(x.1, x.2.1)] = _; simp, o2, kp _ _ ho2, hd2⟩⟩
        | n + 1, e1, e2 => cases e2
  · obtain ⟨z, u', h1, h2, h3⟩ := cell (look (show (capL cap).lookup y = some c from e)).1
    exact ⟨_, h3⟩
  · show cutA H (capA cap) c = none
    unfold cutA
    rw [if_pos (look (show (capL cap).lookup y = some c from e)).1]
  · cases cap <;> rfl
/-- a lambda called with one value -/
theorem run_lam {P : Program} {w : World} {K : PySem.W.Frag} {mg : Str → Option Value} {base : Heap} {A : Around} {outer : List Env} {s : Shared} {H : Hp} {Q : VK} {E : XK} {qual : Str} {params : Arguments} {body : Expr} {scope : Scope} {f c' : Addr} {a : Str} {cap : Cap} {v : V} {u : Value} {k : Nat} {tb : TE}
    (hA : LamA H f c' qual params body scope cap) (L : LamSc scope a cap) (hr : Room (k + 1) A) (e0 : Env0 P w K mg base A outer s H) (r : RelV v u)
    (hbind : ∀ (cl : List (Str × Addr)) (pm cv ctv : Value) (u : Value), bindArgs (PySem.W.kla_fn "<lambda>" qual params body scope cl pm cv ctv) ⟨[u], []⟩ = pure [(a, u)])
    (hbody : Room k (A.deeper (lamE qual scope s.heap.objs.size f c' cap)) → PE (lamC P w K mg base A outer s H E qual scope f c' a cap) body tb)
    (h : tb (some v :: capV cap) (cutA H (capA cap)) fun v' H' => Q v' (putA H H' (capA cap))) :
    codeAny (model P w) A (.call (.ref f) ⟨[u], []⟩) (CR (L2.CX P w) outer P w H s Q E) s := by
  obtain ⟨⟨pm, ctv, hf⟩, hco, hc⟩ := hA
  obtain ⟨hfg, _, _⟩ := e0.hok f _ hf
  obtain ⟨⟨oc, vs, t, hoc, hdc, hvc⟩, _, _⟩ := e0.hok c' _ hco
  have lim : s.heap.NoLimit := e0.mod.nolimit.keeps fun b o e => (e0.bs b o e).1
  refine PySem.W.kla_callFunE hr.depth hfg rfl L.co L.gen rfl ⟨c', oc, vs, t, rfl, hoc, hdc, hvc⟩ ?_
  rw [hbind]
  refine wpAny_pure (wpAny_newFunctionEnv L.nocell (fun y hy => by rw [List.mem_singleton.mp hy]; exact L.par) (fun h₁ hns hsb => ⟨lim.fresh _ hsb, ?_⟩) L.kind)
  show codeAny _ _ (.expr body (lamE qual scope s.heap.objs.size f c' cap)) _ _
  have kp : ∀ b o, s.heap.get? b = some o → h₁.get? b = some o := fun b o e => hsb.extBut b o (Nat.ne_of_lt (Heap.lt_size e)) (Heap.get?_push_of_some _ e)
  have J := lam_in (E := E) (f := f) (c' := c') (qual := qual) (params := params) (body := body) (tk := s.toks + ([(a, u)] : List (Str × Value)).length) hc L e0 hr.hd r hns kp
  refine PySem.W.kla_codeExpr (wpAny_mono ((hbody (hr.deeper _)).run [] _ _ _ _ J h) (fun v' s' hq => ?_) fun e s' hq => hq)
  obtain ⟨w', H', J', rv, q⟩ := hq
  have out : ∀ {b : Addr}, b ∈ capA cap → H' b = none := fun {b} m => by
    cases cap with
    | none => cases m
    | some x =>
      rw [List.mem_singleton.mp m]
      exact J'.freeC x.1 x.2.1 (by show List.lookup x.1 [(x.1, x.2.1)] = _; simp)
  have pn : ∀ {b : Addr} {o : HO}, H' b = some o → putA H H' (capA cap) b = some o := fun {b o} e => by
    unfold putA
    rw [if_neg fun m => by rw [out m] at e; cases e]
    exact e
  have cn : ∀ {b : Addr} {o : HO}, H b = some o → (∀ φ, o ≠ .ext φ) → cutA H (capA cap) b = some o := fun {b o} e z => by
    unfold cutA
    rw [if_neg fun m => by
      obtain ⟨v, y⟩ := capA_ext hc m
      rw [e] at y
      exact z _ (Option.some.inj y)]
    exact e
  have c0 : ∀ {b : Addr}, H b = none → cutA H (capA cap) b = none := fun {b} e => (by
    unfold cutA
    split
    · rfl
    · exact e)
  refine ⟨w', putA H H' (capA cap), J'.os, J'.bare, ⟨fun b o e n => J'.base.keep b o e (c0 n), fun b o e n => J'.base.slot b o e (c0 n), fun b o e n hx => ?_, J'.base.there, fun b xs e => pn (J'.base.tups b xs (cn e fun φ z => by cases z)), fun b o z e => pn (J'.base.frzs b o z (cn e fun φ z => by cases z)), fun b ps e => ?_⟩, fun b o e => ?_, rv, q⟩
  · have := J'.base.free b o e (c0 n) hx
    unfold putA
    split
    · exact n
    · exact this
  · obtain ⟨more, z⟩ := J'.base.tbls b ps (cn e fun φ z => by cases z)
    exact ⟨more, pn z⟩
  · by_cases m : b ∈ capA cap
    · unfold putA at e
      rw [if_pos m] at e
      cases cap with
      | none => cases m
      | some x =>
        have hb : b = x.2.1 := List.mem_singleton.mp m
        subst hb
        have hx : H x.2.1 = some (CellO x.2.1 x.2.2) := hc
        rw [hx] at e
        cases e
        obtain ⟨mm, hmm, hl⟩ := J'.loc
        obtain ⟨u', r', lk⟩ := hl 1 x.1 x.2.2 rfl rfl (.inr (.inr (L.nfree _ (List.mem_singleton.mpr rfl))))
        rcases lk with ⟨k1, _⟩ | ⟨_, c, hcl, hcell⟩
        · have k1 : scope.names.lookup x.1 = some .local := k1
          rw [L.nfree x.1 (List.mem_singleton.mpr rfl)] at k1
          cases k1
        · have hcl : List.lookup x.1 [(x.1, x.2.1)] = some c := hcl
          have : c = x.2.1 := by simpa using hcl.symm
          subst this
          exact cellO_ok r' hcell
    · unfold putA at e
      rw [if_neg m] at e
      exact (J'.hok b o e).stay (fun _ _ _ z => z) (fun d z => pn z) fun d xs z => pn z
section
variable {X : Cx} {pins : List (Addr × Obj)} {σ : L2.St} {H H0 : Hp} {s sI : Shared}
theorem track2 {a : Addr} {oe : Obj} (J : Inv X pins σ H0 sI) (J4 : Inv X pins σ H s) (hx : X.ex = []) (hn : sI.heap.get? a = none) (na : H a = none) (ha : s.heap.get? a = some oe) (hd : ∀ v, oe.data ≠ .cell v) (hd2 : ∀ es n, oe.data ≠ .dict es n) : Inv X pins σ (upd H a (PinO a oe)) s := by
  have ne : ∀ {b : Addr} {o : Obj}, sI.heap.get? b = some o → b ≠ a := fun e z => by
    rw [z, hn] at e
    cases e
  have nL : a ≠ X.env.locals := fun z => by
    obtain ⟨m, ⟨o, es, ep, e, hdd, _⟩, _⟩ := J4.loc
    rw [← z, ha] at e
    cases e
    exact hd2 _ _ hdd
  have n0 : ∀ {b : Addr} {o : Obj}, X.s_0.heap.get? b = some o → b ≠ a := fun {b o} e => by
    obtain ⟨o', e'⟩ := J.base.there b o e (by rw [hx]; exact fun z => nomatch z)
    exact ne e'
  have keep : ∀ {b : Addr} {u : HO}, H b = some u → upd H a (PinO a oe) b = some u := fun e => by
    rw [upd_ne (ne_of_none e na)]
    exact e
  refine ⟨J4.ok, J4.os, J4.bare, ⟨J4.base.keep, J4.base.slot, fun b o e n hq => ?_, J4.base.there, fun b xs e => keep (J4.base.tups b xs e), fun b o u e => keep (J4.base.frzs b o u e), fun b ps e => ?_⟩, J4.loc, J4.cell, ?_, fun x c e => ?_, fun p hp => ?_, J4.hok.laidN (fun _ _ e => e) na (pinO_ok ha), J4.len⟩
  · rw [upd_ne (n0 e)]
    exact J4.base.free b o e n hq
  · obtain ⟨m, q⟩ := J4.base.tbls b ps e
    exact ⟨m, keep q⟩
  · rw [upd_ne (Ne.symm nL)]
    exact J4.free
  · have hc : c ≠ a := fun z => by
      obtain ⟨v, o, ho, hv⟩ := J4.cell x c e
      rw [z, ha] at ho
      cases ho
      exact hd _ hv
    rw [upd_ne hc]
    exact J4.freeC x c e
  · obtain ⟨e, n, r⟩ := J4.pin p hp
    have hp' : p.1 ≠ a := ne (J.pin p hp).1
    exact ⟨e, by rw [upd_ne hp']; exact n, r⟩
/-- what is so of the state behind a lambda's making: at f a new function object, known from now on -/
def LamMade (P : Addr) (T : List (Addr × Str)) (q : Str) (params : Arguments) (body : Expr) (scope : Scope) (cl : List (Str × Addr)) (H : Hp) (Q : VK) : Prop :=
  ∀ (f c' : Addr) (pm ctv : Value) (H2 : Hp), Off [P] H H2 → Tabs T H2 → H f = none → H2 f = some (PinO f (PySem.W.kla_obj "<lambda>" q params body scope cl pm c' ctv)) → H2 c' = some (CodeO c' q) → (H P = some (.tbl #[]) → H c' = none) → Q (.ref f) H2
def tLamK (P : Addr) (T : List (Addr × Str)) (q : Str) (params : Arguments) (body : Expr) (scope : Scope) (cl : List (Str × Addr)) : TE := fun _ H Q => Tabs T H ∧ LamMade P T q params body scope cl H Q
theorem tabs_pin {T : List (Addr × Str)} {a : Addr} {oe : Obj} (h : Tabs T H) (na : H a = none) : Tabs T (upd H a (PinO a oe)) := h.ext fun b o e => by
  rw [upd_ne (ne_of_none e na)]
  exact e
theorem offN_pin {a P : Addr} {oe : Obj} (h : Off [P] H0 H) (na : H a = none) : Off [P] H0 (upd H a (PinO a oe)) := fun b o n e => by
  have := h b o n e
  rw [upd_ne (ne_of_none this na)]
  exact this
theorem pe_lamK {T : List (Addr × Str)} {c P : Addr} {params : Arguments} {body : Expr} {scope : Scope} {pos : Pos} (TB : TabB X.base X.mg c P) (hcode : X.env.code = .ref c) (hm : (P, X.env.qual ++ "<lambda>") ∈ T) (hu : ∀ p ∈ T, p.1 = P → p.2 = X.env.qual ++ "<lambda>") (hex : X.ex = [])
    (hdef : defaultsOf params X.env = ([], [])) (hfree : ∀ y ∈ scope.names, y.2 = .free → ∃ c, X.env.cells.lookup y.1 = some c) :
    PE X (.Lambda params body scope pos) (tLamK P T (X.env.qual ++ "<lambda>") params body scope (cloFrom X.env.cells scope.names [])) := by
  refine ⟨fun pins s σ H Q I h => ?_⟩
  obtain ⟨hT, h⟩ := h
  obtain ⟨ps, hP, ht, ha⟩ := hT _ hm
  have hPo : s.heap.get? P = some { cls := .none, data := .fields ps } := I.hok P _ hP
  have hbi : s.heap.BuiltinsAt X.mg P := TB.bm.keeps I.bk
  refine PySem.W.kla_eval hdef ?_
  cases hc : codeAmong pos ps.toList with
  | some cv =>
    obtain ⟨c', rfl, hco⟩ := ha pos cv hc
    refine PySem.W.kla_makeFunctionHit (mg := X.mg) (c := c) (P := P) (ps := ps) (closure_ok hfree) I.ok.glob (I.mod.glob.keeps I.bk) hcode (TB.code.keeps I.bk) hPo ht hc hbi fun ctv h' tk hx hsz => ?_
    have fr : s.heap.get? h'.objs.size = none := Heap.get?_none_of_le hsz
    have nf : H h'.objs.size = none := I.hok.fresh hsz
    have J := I.kept (h' := h'.push (PySem.W.kla_obj "<lambda>" (X.env.qual ++ "<lambda>") params body scope (cloFrom X.env.cells scope.names []) ((X.mg "__name__").getD .none) c' ctv)) (t' := tk) fun b o e => Heap.get?_push_of_some _ (hx b o e)
    have J2 := track2 I J hex fr nf (Heap.get?_push_size _ rfl) (fun v z => by cases z) (fun es n z => by cases z)
    exact ⟨V.ref _, _, J2, rfl, h _ c' _ ctv _ (offN_pin Off.refl nf) (tabs_pin hT nf) nf upd_same (by rw [upd_ne (ne_of_none hco nf)]; exact hco) (fun z => by
      rw [hP] at z
      cases z
      cases hc)⟩
  | none =>
    refine PySem.W.kla_makeFunction (mg := X.mg) (c := c) (P := P) (ps := ps) (closure_ok hfree) I.ok.glob (I.mod.glob.keeps I.bk) hcode (TB.code.keeps I.bk) hPo ht hc TB.gP hbi fun c' ctv h' tk hx hge hlt hrec htb => ?_
    obtain ⟨c2, oc, vs, t, e2, hoc, hd, hv⟩ := hrec
    cases e2
    have hsz : s.heap.objs.size ≤ h'.objs.size := Nat.le_trans hge (Nat.le_of_lt hlt)
    have nC : H c' = none := I.hok.fresh hge
    have nPc : P ≠ c' := ne_of_none hP nC
    have fr : s.heap.get? h'.objs.size = none := Heap.get?_none_of_le hsz
    have nf0 : H h'.objs.size = none := I.hok.fresh hsz
    have J := inv_table (t' := tk) (q := X.env.qual ++ "<lambda>") (more := #[rawInt pos.line, rawInt pos.col, .ref c']) (h' := h'.push (PySem.W.kla_obj "<lambda>" (X.env.qual ++ "<lambda>") params body scope (cloFrom X.env.cells scope.names []) ((X.mg "__name__").getD .none) c' ctv)) I hP
      (fun b o hb e => Heap.get?_push_of_some _ (hx b o hb e)) (Heap.get?_push_of_some _ htb) hge ⟨oc, vs, t, Heap.get?_push_of_some _ hoc, hd, hv⟩
    generalize hH1 : upd (upd H P (.tbl (ps ++ #[rawInt pos.line, rawInt pos.col, .ref c']))) c' (CodeO c' (X.env.qual ++ "<lambda>")) = H1 at J
    have atc : H1 c' = some (CodeO c' (X.env.qual ++ "<lambda>")) := by rw [← hH1]; exact upd_same
    have atP : H1 P = some (.tbl (ps ++ #[rawInt pos.line, rawInt pos.col, .ref c'])) := by rw [← hH1, upd_ne nPc]; exact upd_same
    have oth : ∀ b, b ≠ P → b ≠ c' → H1 b = H b := fun b h1 h2 => by rw [← hH1, upd_ne h2, upd_ne h1]
    have hE : ExtN H H1 := fun b o e n => by
      by_cases z : b = P
      · rw [z, hP] at e
        exact absurd (Option.some.inj e).symm (n ps)
      · rw [oth b z (ne_of_none e nC)]
        exact e
    have hOf : Off [P] H H1 := fun b o n e => by
      rw [oth b (fun z => n (by rw [z]; exact List.mem_singleton.mpr rfl)) (ne_of_none e nC)]
      exact e
    have nf : H1 h'.objs.size = none := by
      rw [oth _ (fun z => by rw [z, hP] at nf0; cases nf0) (Nat.ne_of_gt hlt)]
      exact nf0
    have hTb : Tabs T H1 := fun p hp => by
      by_cases hb : p.1 = P
      · rw [hu p hp hb, hb]
        have eL : (ps ++ #[rawInt pos.line, rawInt pos.col, .ref c']).toList = ps.toList ++ [rawInt pos.line, rawInt pos.col, .ref c'] := by simp
        refine ⟨_, atP, by rw [eL]; exact PySem.TriplesOk_snoc _ _ _ _ ht, fun p' cv hcv => ?_⟩
        rw [eL] at hcv
        rcases among_app _ ht hcv with z | z
        · obtain ⟨d, e1, e2⟩ := ha p' cv z
          exact ⟨d, e1, hE _ _ e2 codeO_ne⟩
        · exact ⟨c', z, atc⟩
      · obtain ⟨qs, a1, a2, a3⟩ := hT p hp
        refine ⟨qs, by rw [oth _ hb (ne_of_none a1 nC)]; exact a1, a2, fun p' cv hcv => ?_⟩
        obtain ⟨d, e1, e2⟩ := a3 p' cv hcv
        exact ⟨d, e1, hE _ _ e2 codeO_ne⟩
    have J2 := track2 I J hex fr nf (Heap.get?_push_size _ rfl) (fun v z => by cases z) (fun es n z => by cases z)
    exact ⟨V.ref _, _, J2, rfl, h _ c' _ ctv _ (offN_pin hOf nf) (tabs_pin hTb nf) nf0 upd_same (by rw [upd_ne (ne_of_none atc nf)]; exact atc) (fun _ => nC)⟩
end
/-! ### such a thing called by way of a field -/
/-- what a thing at f that is called with one value promises -/
def LamOk (P : Program) (w : World) (K : PySem.W.Frag) (mg : Str → Option Value) (base : Heap) (k : Nat) (f : Addr) (sp : Sp) : Prop :=
  ∀ (A : Around) (outer : List Env) (s : Shared) (H : Hp) (u : Value) (v : V) (Q : VK) (E : XK), Room k A → Env0 P w K mg base A outer s H → RelV v u → sp [v] H Q E → codeAny (model P w) A (.call (.ref f) ⟨[u], []⟩) (CR (L2.CX P w) outer P w H s Q E) s
abbrev fnO (fd : FuncData) : Obj := { cls := .type "function", data := .func fd }
def fcK (P : Program) (w : World) (K : PySem.W.Frag) (mg : Str → Option Value) (base : Heap) (k : Nat) (m : Str) (E : XK) (σ : L2.St) (t : TA) (Q : VK) : V → Hp → Prop := fun x H1 =>
  ∃ (a C dx : Addr) (fs : List (Str × V)) (f : Addr) (sp : Sp) (fd : FuncData), x = .ref a ∧ H1 a = some (.ins C dx fs) ∧ Cls K C ∧ NoAttr K C m ∧ fs.lookup m = some (.ref f) ∧ LamOk P w K mg base k f sp ∧ H1 f = some (PinO f (fnO fd)) ∧
    t σ H1 fun vs H2 => H2 f = some (PinO f (fnO fd)) ∧ (∃ v, vs = [v]) ∧ sp vs H2 Q E
def tFC (P : Program) (w : World) (K : PySem.W.Frag) (mg : Str → Option Value) (base : Heap) (k : Nat) (m : Str) (E : L2.St → XK) (te : TE) (t : TA) : TE := fun σ H Q => te σ H (fcK P w K mg base k m (E σ) σ t Q)
theorem vals_one {v : V} {us : List Value} (h : Vals [v] us) : ∃ u, us = [u] ∧ RelV v u := by
  cases us with
  | nil => cases h
  | cons u r =>
    cases h with
    | cons a b =>
      cases b
      exact ⟨u, rfl, a⟩
theorem pe_fcall {X : Cx} {o e : Expr} {m : Str} {te : TE} {t : TA} {k : Nat} {E : L2.St → XK} {apos pos : Pos} {pl : Sem Bool} (he : PE X o te) (hr : Room k X.A) (hx : ∀ σ, PassesAt (L2.CX X.prog X.w) X σ (E σ)) (ha : PA X [e] t)
    (hst : starEach [e] X.env = (false, eval e X.env) :: starEach [] X.env := by rfl) (hpl : (backTo pos (starEach [] X.env)).any (·.1) = false := by rfl)
    (hev : eval (.Call (.Attribute o m apos) [e] [] pos) X.env = (do let ov ← eval o X.env; standAt apos.atName; let (f, first) ← holding [ov] (getMethod ov m pl); callWith pos f first (backTo pos (starEach [e] X.env)) (backToKw pos (keywordEach [] X.env))) := by rfl) :
    PE X (.Call (.Attribute o m apos) [e] [] pos) (tFC X.prog X.w X.K X.mg X.base k m E te t) := by
  refine ⟨fun pins s σ H Q I h => ?_⟩
  refine PySem.W.methodCall_KW (pl := pl) (thn (he.run pins s σ H _ I h) fun u s1 ⟨x, H1, I1, rx, a, C, dx, fs, f, sp, fd, ex, ea, c, na, l, ok, hp, q⟩ => ?_) hev
  subst ex
  have eu : u = Value.ref a := rx
  subst eu
  obtain ⟨mA, O, _, _, _, _⟩ := ins_get I1.hok ea
  obtain ⟨od, J, _⟩ := O.look
  refine PySem.W.method_usual I1.kIn J (PySem.W.plainGet_of (c.get m)).1 (PySem.W.plainGet_of (c.get m)).2 na rfl (getattr_ok I1 ea c na l fun u2 s2 I2 r2 => ?_)
  have e2 : u2 = Value.ref f := r2
  subst e2
  refine PySem.W.callWith_F ⟨_, _, _, _, (I2.hok f _ hp).1⟩ (thn (ha.run pos pins s2 σ H1 _ I2 q) fun us s3 ⟨vs, H3, I3, r3, hp3, ⟨v, ev⟩, q3⟩ => ⟨⟨_, _, _, _, (I3.hok f _ hp3).1⟩, ?_⟩) hst hpl
  subst ev
  obtain ⟨u3, eu, rv⟩ := vals_one r3
  subst eu
  refine wpAny_call (codeAny_mono (ok X.A X.stack s3 H3 u3 v Q (E σ) hr I3.env0 rv q3) fun r s' hq => ?_)
  cases r with
  | error e => exact hx σ pins H3 s3 e s' I3 hq
  | ok fl =>
    cases fl with
    | ret u => exact I3.after hq
    | next => exact False.elim hq
    | brk => exact False.elim hq
    | cont => exact False.elim hq
/-! ### a def that hands out a lambda: its ends told with its names -/
structure EndsC where
  nx : L2.St → Hp → Prop
  rt : V → L2.St → Hp → Prop
def SPC (X : Cx) (pins : List (Addr × Obj)) (D : EndsC) (f : Flow) (s' : Shared) : Prop := match f with
  | .next => ∃ σ' H', Inv X pins σ' H' s' ∧ D.nx σ' H'
  | .ret u => ∃ v σ' H', Inv X pins σ' H' s' ∧ RelV v u ∧ D.rt v σ' H'
  | _ => False
abbrev TSC := EndsC → L2.St → Hp → Prop
structure PSC (X : Cx) (st : Stmt) (t : TSC) : Prop where
  run : ∀ (pins : List (Addr × Obj)) (s : Shared) (σ : L2.St) (H : Hp) (D : EndsC), Inv X pins σ H s → t D σ H → wpAny (model X.prog X.w) X.A (exec st X.env) (SPC X pins D) X.xe s
structure PSCs (X : Cx) (st : List Stmt) (t : TSC) : Prop where
  run : ∀ (pins : List (Addr × Obj)) (s : Shared) (σ : L2.St) (H : Hp) (D : EndsC), Inv X pins σ H s → t D σ H → wpAny (model X.prog X.w) X.A (execs st X.env) (SPC X pins D) X.xe s
section
variable {X : Cx} {st : Stmt} {rest : List Stmt}
def tRetC (te : TE) : TSC := fun D σ H => te σ H fun v H' => D.rt v σ H'
def tIfC (c : TT) (t u : TSC) : TSC := fun D σ H => c σ H fun b H1 => if b = true then t D σ H1 else u D σ H1
def tSeqC (t u : TSC) : TSC := fun D σ H => t { D with nx := u D } σ H
def tNilC : TSC := fun D σ H => D.nx σ H
theorem psc_ret {e : Expr} {te : TE} {pos : Pos} (he : PE X e te) : PSC X (.Return (some e) pos) (tRetC te) := ⟨fun pins s σ H D I q => wpAny_Return_some (thn (he.run pins s σ H _ I q) fun _ _ ⟨x, H1, I1, r1, q1⟩ => ⟨x, σ, H1, I1, r1, q1⟩)⟩
theorem psc_if {c : Expr} {a b : List Stmt} {tc : TT} {t u : TSC} {pos : Pos} (hc : PT X c tc) (ha : PSCs X a t) (hb : PSCs X b u) : PSC X (.If c a b pos) (tIfC tc t u) := ⟨fun pins s σ H D I q => wpAny_If (thn (hc.run pins s σ H _ I q) fun d s1 ⟨H1, I1, q1⟩ => by
  cases d with
  | true => exact ha.run pins s1 σ H1 D I1 q1
  | false => exact hb.run pins s1 σ H1 D I1 q1)⟩
theorem pscs_nil : PSCs X [] tNilC := ⟨fun pins s σ H D I q => wpAny_execs_nil ⟨σ, H, I, q⟩⟩
theorem pscs_cons {t u : TSC} (h1 : PSC X st t) (h2 : PSCs X rest u) : PSCs X (st :: rest) (tSeqC t u) := ⟨fun pins s σ H D I q => by
  refine wpAny_execs_cons (thn (h1.run pins s σ H { D with nx := u D } I q) fun f s1 z => ?_)
  cases f with
  | next =>
    obtain ⟨σ', H', I', z⟩ := z
    exact h2.run pins s1 σ' H' D I' z
  | ret v => exact z
  | brk => exact z
  | cont => exact z⟩
end
def trkH (H : Hp) : Cap → Hp
  | none => H
  | some (_, c, z) => upd H c (CellO c z)
/-- what is captured: a cell of the frame, with what stands in it at the end -/
def CapX (X : Cx) (σ : L2.St) : Cap → Prop
  | none => True
  | some (y, c, z) => X.env.scope.names.lookup y = some .cell ∧ X.env.cells.lookup y = some c ∧ ∃ i : Nat, X.N[i]? = some y ∧ σ[i]? = some (some z)
/-! ### the head's facts with tables of code objects -/
def tbK (g : Addr → Option Obj) (a : Addr) : Addr := match g a with
  | some ⟨_, _, .fields vs, _⟩ => (match (vs[11]? : Option Value) with
    | some (.ref p) => p
    | _ => 0)
  | _ => 0
def emB (K : PySem.W.Frag) (p : Addr) : Bool := match K.lookup p with
  | some ⟨.none, none, .fields ⟨[]⟩, ⟨[]⟩⟩ => true
  | _ => false
theorem emB_ok {K : PySem.W.Frag} {p : Addr} {h : Heap} (X : K.In h) (e : emB K p = true) : h.get? p = some { cls := .none, data := .fields #[] } := by
  unfold emB at e
  split at e
  · rename_i q
    exact X _ _ q
  · cases e
def cdB (K : PySem.W.Frag) (f c : Addr) : Bool := match K.lookup f with
  | some ⟨_, _, .func fd, _⟩ => (match fd.code with
    | .ref b => decide (b = c)
    | _ => false)
  | _ => false
theorem cdB_ok {K : PySem.W.Frag} {f c : Addr} {oc : Value} {od : Option Addr} {fd : FuncData} {sl : Array (Option Value)} (e : cdB K f c = true) (l : K.lookup f = some ⟨oc, od, .func fd, sl⟩) : fd.code = .ref c := by
  unfold cdB at e
  rw [l] at e
  dsimp only at e
  split at e
  · rename_i b q
    rw [q, of_decide_eq_true e]
  · cases e
theorem fun_code {K : PySem.W.Frag} {x qual : Str} {st : Stmt} {f c : Addr} {fd : FuncData} (F : Fun K x qual st f fd) (e : cdB K f c = true) : fd.code = .ref c := by
  obtain ⟨oc, od, kV, doc, pm, an, cdv, ct, osl, h, lk, _⟩ := F.ex
  exact cdB_ok e lk
def tabB (K K2 : PySem.W.Frag) (p : Addr × Addr) : Bool := PySem.W.codeHdIn K p.1 p.2 && ((K.lookup p.2).isNone && emB K2 p.2)
/-- cs: the code objects with their tables, by place -/
def tabsB (cs : List (Nat × Nat)) (K K2 : PySem.W.Frag) (A A2 : List Addr) : Bool := cs.all fun n => tabB K K2 (A.getD n.1 0, A2.getD n.2 0)
def csOf (cs : List (Nat × Nat)) (A A2 : List Addr) : List (Addr × Addr) := cs.map fun n => (A.getD n.1 0, A2.getD n.2 0)
def obsKT (ls ls2 : (Addr → Option Obj) → List Addr) (fs : FsK) (fn : List DefK) (cs : List (Nat × Nat)) (g : Addr → Option Obj) : FnWK × Bool :=
  frList (ls g) fun A => frFr g A fun K => frList (ls2 g) fun A2 => frFr g A2 fun K2 => (obsK fs fn K A, tabsB cs K K2 A A2)
theorem obsKT_is {ls ls2 : (Addr → Option Obj) → List Addr} {fs : FsK} {fn : List DefK} {cs : List (Nat × Nat)} {g : Addr → Option Obj} : obsKT ls ls2 fs fn cs g = (obsK fs fn (He.frG g (ls g)) (ls g), tabsB cs (He.frG g (ls g)) (He.frG g (ls2 g)) (ls g) (ls2 g)) := by
  unfold obsKT
  rw [frList_eq, frFr_eq, frList_eq, frFr_eq]
def hookKT (ls ls2 : (Addr → Option Obj) → List Addr) (fs : FsK) (fn : List DefK) (cs : List (Nat × Nat)) : PySem.W.Hook where
  α := FnWK × Bool
  obs := fun s => obsKT ls ls2 fs fn cs s.heap.get?
  val := fun _ => (valK fn, true)
  says := fun _ h => ∃ (K K2 : PySem.W.Frag) (A A2 : List Addr), K.In h ∧ K2.In h ∧ SaysK fs fn K A ∧ tabsB cs K K2 A A2 = true
  of := fun _ _ e => ⟨_, _, _, _, He.frG_in, He.frG_in, congrArg Prod.fst (obsKT_is.symm.trans e), congrArg Prod.snd (obsKT_is.symm.trans e)⟩
  keeps := fun _ _ _ ⟨K, K2, A, A2, hK, hK2, c, d⟩ k => ⟨K, K2, A, A2, PySem.W.Frag.In.keeps hK k, PySem.W.Frag.In.keeps hK2 k, c, d⟩
theorem obsKT_eq {ls ls2 : (Addr → Option Obj) → List Addr} {fs : FsK} {fn : List DefK} {cs : List (Nat × Nat)} {g : Addr → Option Obj} {s : Shared} (h : ∀ a, g a = s.heap.get? a) : obsKT ls ls2 fs fn cs g = (hookKT ls ls2 fs fn cs).obs s := by
  have e : g = s.heap.get? := funext h
  rw [e] <;> rfl
theorem walk_ofWT {l : PySem.W.OpenLaw} {n k : Nat} {q : Program} {loose : List Str} {XP : (Str → Option Value) → Heap → Prop} {YP : World → Heap → Prop} {d : DefRec} {CX : World → CXT} {x : Str} (hn : l.most = some n) (hn2 : n ≤ sizeLine) (hdf : d.params.defaults = []) (hr : Room k callerA)
    (F : ∀ (w : World) (mg : Str → Option Value) (fa : Addr) (h : Heap), YP w h → h.Ns mainGlobals mg → mg d.name = some (.ref fa) →
      ∃ (K K2 : PySem.W.Frag) (fd : FuncData) (cs : List (Addr × Addr)) (sp : Sp), K.In h ∧ K2.In h ∧ (∀ p ∈ cs, tabB K K2 p = true) ∧ (∀ (s : Shared) (u : Value), BindsTo s fd ⟨[u], []⟩ [(x, u)]) ∧
        (∀ (H : Hp) (a : Addr) (ns : List Int), ns.length ≤ n → (∀ p ∈ cs, H p.2 = some (.tbl #[])) → SqL K H a (ns.map V.int) → sp [.ref a] H (fun v _ => v = .bl true) fun _ _ _ => False) ∧
        ∀ base : Heap, K.In base → base.Ns mainGlobals mg → (∀ p ∈ cs, TabB base mg p.1 p.2) → FnOk l.prog w K mg base (CX w) k fa fd [x] sp)
    (hCX : ∀ (w : World) (H : Hp) (s : Shared) (e : Value) (s' : Shared), CX w [] H s (fun _ _ _ => False) e s' → False) : PySem.W.WalkO q loose XP YP l.row.toRowW d [] (fun f vs => PySem.call f vs) := by
  refine Att.attach_call hn hdf fun w s₀ s₁ mg mb fa o pm cd doc a vs ns G Y ho hd hcd hmg hobj hints hlen hg => ?_
  obtain ⟨K, K2, fd, cs, sp, KX, KX2, hcs, hb, hsp, hF⟩ := F w mg fa _ Y G.T.g hmg
  have h1 : ∀ p ∈ cs, PySem.W.codeHdIn K p.1 p.2 = true ∧ K.lookup p.2 = none ∧ emB K2 p.2 = true := fun p hp => by
    have := hcs p hp
    unfold tabB at this
    obtain ⟨a, b⟩ := He.ba this
    obtain ⟨b, c⟩ := He.ba b
    exact ⟨a, Option.isNone_iff_eq_none.mp b, c⟩
  exact law_callTs KX G.T.g G.T.b G.T.builtins G.T.nolimit hg (fun p hp => emB_ok KX2 (h1 p hp).2.2) (fun p hp => (h1 p hp).2.1) (fun p hp => PySem.W.codeHd_of_K KX (h1 p hp).1) G.T.bmain hobj hints (Nat.le_trans hlen hn2) hr hF hb (fun H hH hS => hsp H a ns hlen hH hS) fun H e s' => hCX w H s₁ e s'
section
variable {P : Program} {w : World} {K : PySem.W.Frag} {mg : Str → Option Value} {base : Heap} {σ : L2.St} {H : Hp} {Q : VK} {te : TE} {ta : TA} {k : Nat} {m : Str} {a f : Addr} {v : V}
theorem x_fc {E : L2.St → XK} (h : te σ H (fcK P w K mg base k m (E σ) σ ta Q)) : tFC P w K mg base k m E te ta σ H Q := h
theorem x_fcK {E : XK} {C dx : Addr} {fs : List (Str × V)} {sp : Sp} {fd : FuncData} (ho : H a = some (.ins C dx fs)) (hl : fs.lookup m = some (.ref f)) (ok : LamOk P w K mg base k f sp) (hp : H f = some (PinO f (fnO fd))) (hc : Cls K C) (hn : NoAttr K C m)
    (h : ta σ H fun vs H2 => H2 f = some (PinO f (fnO fd)) ∧ (∃ v, vs = [v]) ∧ sp vs H2 Q E) : fcK P w K mg base k m E σ ta Q (.ref a) H := ⟨a, C, dx, fs, f, sp, fd, rfl, ho, hc, hn, hl, ok, hp, h⟩
theorem x_seqC {t u : TSC} {D : EndsC} (h : t { D with nx := u D } σ H) : tSeqC t u D σ H := h
theorem x_ifC {c : TT} {t u : TSC} {D : EndsC} (h : c σ H fun b H1 => if b = true then t D σ H1 else u D σ H1) : tIfC c t u D σ H := h
theorem x_retC {D : EndsC} (h : te σ H fun v H' => D.rt v σ H') : tRetC te D σ H := h
theorem x_nilC {D : EndsC} (h : D.nx σ H) : tNilC D σ H := h
end
end Kit
namespace My
open PySem L2 Kit LamX
def top (i : Nat) : Stmt := PySem.Challenge.pw_wornpages_k26_order.main.body.getD i (.Pass ⟨0, 0, 0, 0⟩)
abbrev s_is_whole : Stmt := top 5
abbrev N_is_whole : List Str := ["thing"]
theorem sc_is_whole : FnScope N_is_whole ["thing"] (defScope s_is_whole) := ⟨rfl, rfl, rfl, by decide +kernel, rfl, by decide +kernel, by decide +kernel⟩
abbrev s_is_within : Stmt := top 6
abbrev N_is_within : List Str := ["thing", "low", "high"]
theorem sc_is_within : FnScope N_is_within ["thing", "low", "high"] (defScope s_is_within) := ⟨rfl, rfl, rfl, by decide +kernel, rfl, by decide +kernel, by decide +kernel⟩
abbrev s_Rule_goes_ahead : Stmt := inClass (top 8) 0
abbrev N_Rule_goes_ahead : List Str := ["self", "one", "other", "pages", "now"]
theorem sc_Rule_goes_ahead : FnScope N_Rule_goes_ahead ["self", "one", "other", "pages", "now"] (defScope s_Rule_goes_ahead) := ⟨rfl, rfl, rfl, by decide +kernel, rfl, by decide +kernel, by decide +kernel⟩
abbrev s_Rule_choose : Stmt := inClass (top 8) 1
abbrev N_Rule_choose : List Str := ["self", "tallies", "pages", "now", "best", "tally"]
theorem sc_Rule_choose : FnScope N_Rule_choose ["self", "tallies", "pages", "now"] (defScope s_Rule_choose) := ⟨rfl, rfl, rfl, by decide +kernel, rfl, by decide +kernel, by decide +kernel⟩
abbrev s_Fewest_goes_ahead : Stmt := inClass (top 9) 0
abbrev N_Fewest_goes_ahead : List Str := ["self", "one", "other", "pages", "now"]
theorem sc_Fewest_goes_ahead : FnScope N_Fewest_goes_ahead ["self", "one", "other", "pages", "now"] (defScope s_Fewest_goes_ahead) := ⟨rfl, rfl, rfl, by decide +kernel, rfl, by decide +kernel, by decide +kernel⟩
abbrev s_Eldest_goes_ahead : Stmt := inClass (top 10) 0
abbrev N_Eldest_goes_ahead : List Str := ["self", "one", "other", "pages", "now"]
theorem sc_Eldest_goes_ahead : FnScope N_Eldest_goes_ahead ["self", "one", "other", "pages", "now"] (defScope s_Eldest_goes_ahead) := ⟨rfl, rfl, rfl, by decide +kernel, rfl, by decide +kernel, by decide +kernel⟩
abbrev s_Worth_goes_ahead : Stmt := inClass (top 11) 0
abbrev N_Worth_goes_ahead : List Str := ["self", "one", "other", "pages", "now", "here", "there"]
theorem sc_Worth_goes_ahead : FnScope N_Worth_goes_ahead ["self", "one", "other", "pages", "now"] (defScope s_Worth_goes_ahead) := ⟨rfl, rfl, rfl, by decide +kernel, rfl, by decide +kernel, by decide +kernel⟩
abbrev s_Weighed_init : Stmt := inClass (top 12) 0
abbrev N_Weighed_init : List Str := ["self", "weigh"]
theorem sc_Weighed_init : FnScope N_Weighed_init ["self", "weigh"] (defScope s_Weighed_init) := ⟨rfl, rfl, rfl, by decide +kernel, rfl, by decide +kernel, by decide +kernel⟩
abbrev s_Weighed_goes_ahead : Stmt := inClass (top 12) 1
abbrev N_Weighed_goes_ahead : List Str := ["self", "one", "other", "pages", "now"]
theorem sc_Weighed_goes_ahead : FnScope N_Weighed_goes_ahead ["self", "one", "other", "pages", "now"] (defScope s_Weighed_goes_ahead) := ⟨rfl, rfl, rfl, by decide +kernel, rfl, by decide +kernel, by decide +kernel⟩
abbrev s_Turned_init : Stmt := inClass (top 13) 0
abbrev N_Turned_init : List Str := ["self", "rule"]
theorem sc_Turned_init : FnScope N_Turned_init ["self", "rule"] (defScope s_Turned_init) := ⟨rfl, rfl, rfl, by decide +kernel, rfl, by decide +kernel, by decide +kernel⟩
abbrev s_Turned_goes_ahead : Stmt := inClass (top 13) 1
abbrev N_Turned_goes_ahead : List Str := ["self", "one", "other", "pages", "now"]
theorem sc_Turned_goes_ahead : FnScope N_Turned_goes_ahead ["self", "one", "other", "pages", "now"] (defScope s_Turned_goes_ahead) := ⟨rfl, rfl, rfl, by decide +kernel, rfl, by decide +kernel, by decide +kernel⟩
abbrev s_Order_init : Stmt := inClass (top 14) 0
abbrev N_Order_init : List Str := ["self", "rules"]
theorem sc_Order_init : FnScope N_Order_init ["self", "rules"] (defScope s_Order_init) := ⟨rfl, rfl, rfl, by decide +kernel, rfl, by decide +kernel, by decide +kernel⟩
abbrev s_Order_goes_ahead : Stmt := inClass (top 14) 1
abbrev N_Order_goes_ahead : List Str := ["self", "one", "other", "pages", "now", "rule"]
theorem sc_Order_goes_ahead : FnScope N_Order_goes_ahead ["self", "one", "other", "pages", "now"] (defScope s_Order_goes_ahead) := ⟨rfl, rfl, rfl, by decide +kernel, rfl, by decide +kernel, by decide +kernel⟩
abbrev s_Window_init : Stmt := inClass (top 15) 0
abbrev N_Window_init : List Str := ["self", "many"]
theorem sc_Window_init : FnScope N_Window_init ["self", "many"] (defScope s_Window_init) := ⟨rfl, rfl, rfl, by decide +kernel, rfl, by decide +kernel, by decide +kernel⟩
abbrev s_Window_choose : Stmt := inClass (top 15) 1
abbrev s_Follow_init : Stmt := inClass (top 16) 0
abbrev N_Follow_init : List Str := ["self", "blocks"]
theorem sc_Follow_init : FnScope N_Follow_init ["self", "blocks"] (defScope s_Follow_init) := ⟨rfl, rfl, rfl, by decide +kernel, rfl, by decide +kernel, by decide +kernel⟩
abbrev s_Follow_choose : Stmt := inClass (top 16) 1
abbrev s__law_cell_at : Stmt := top 18
abbrev N__law_cell_at : List Str := ["_law_script", "_law_k"]
theorem sc__law_cell_at : FnScope N__law_cell_at ["_law_script", "_law_k"] (defScope s__law_cell_at) := ⟨rfl, rfl, rfl, by decide +kernel, rfl, by decide +kernel, by decide +kernel⟩
abbrev s__law_whole : Stmt := top 19
abbrev N__law_whole : List Str := ["_law_found"]
theorem sc__law_whole : FnScope N__law_whole ["_law_found"] (defScope s__law_whole) := ⟨rfl, rfl, rfl, by decide +kernel, rfl, by decide +kernel, by decide +kernel⟩
abbrev s__law_now : Stmt := top 20
abbrev N__law_now : List Str := ["_law_cell"]
theorem sc__law_now : FnScope N__law_now ["_law_cell"] (defScope s__law_now) := ⟨rfl, rfl, rfl, by decide +kernel, rfl, by decide +kernel, by decide +kernel⟩
abbrev s__law_tallies : Stmt := top 21
abbrev N__law_tallies : List Str := ["_law_script", "_law_start", "_law_pages", "_law_now_here", "_law_found", "_law_block", "_law_cell", "_law_number", "_law_cleared"]
theorem sc__law_tallies : FnScope N__law_tallies ["_law_script", "_law_start", "_law_pages", "_law_now_here"] (defScope s__law_tallies) := ⟨rfl, rfl, rfl, by decide +kernel, rfl, by decide +kernel, by decide +kernel⟩
abbrev s__law_first : Stmt := top 22
abbrev N__law_first : List Str := ["_law_tallies_here", "_law_ranks", "_law_least", "_law_tally", "_law_rank_here"]
theorem sc__law_first : FnScope N__law_first ["_law_tallies_here", "_law_ranks"] (defScope s__law_first) := ⟨rfl, rfl, rfl, by decide +kernel, rfl, by decide +kernel, by decide +kernel⟩
abbrev s__law_base : Stmt := top 23
abbrev N__law_base : List Str := ["_law_kind"]
theorem sc__law_base : FnScope N__law_base ["_law_kind"] (defScope s__law_base) := ⟨rfl, rfl, rfl, by decide +kernel, rfl, by decide +kernel, by decide +kernel⟩
abbrev s__law_made : Stmt := top 24
abbrev N__law_made : List Str := ["_law_cell", "_law_rule"]
theorem sc__law_made : FnScope N__law_made ["_law_cell"] (defScope s__law_made) := ⟨rfl, rfl, rfl, by decide +kernel, rfl, by decide +kernel, by decide +kernel⟩
abbrev s__law_rank : Stmt := top 25
abbrev N__law_rank : List Str := ["_law_cell", "_law_tally", "_law_pages", "_law_now_here", "_law_many", "_law_number", "_law_share", "_law_worth", "_law_some", "_law_field"]
theorem sc__law_rank : FnScope N__law_rank ["_law_cell", "_law_tally", "_law_pages", "_law_now_here"] (defScope s__law_rank) := ⟨rfl, rfl, rfl, by decide +kernel, rfl, by decide +kernel, by decide +kernel⟩
abbrev s__law_cells : Stmt := top 26
abbrev N__law_cells : List Str := ["_law_script", "_law_cells_here", "_law_k", "_law_cell"]
theorem sc__law_cells : FnScope N__law_cells ["_law_script"] (defScope s__law_cells) := ⟨rfl, rfl, rfl, by decide +kernel, rfl, by decide +kernel, by decide +kernel⟩
abbrev s__law_turned_good : Stmt := top 27
abbrev N__law_turned_good : List Str := ["_law_rule", "_law_tallies_here", "_law_ranks", "_law_pages", "_law_now_here", "_law_back", "_law_most", "_law_due", "_law_tally", "_law_rank_here"]
theorem sc__law_turned_good : FnScope N__law_turned_good ["_law_rule", "_law_tallies_here", "_law_ranks", "_law_pages", "_law_now_here"] (defScope s__law_turned_good) := ⟨rfl, rfl, rfl, by decide +kernel, rfl, by decide +kernel, by decide +kernel⟩
abbrev s__law_refused : Stmt := top 28
abbrev N__law_refused : List Str := ["_law_many", "_law_kinds", "_law_k", "e"]
theorem sc__law_refused : FnScope N__law_refused ["_law_many"] (defScope s__law_refused) := ⟨rfl, rfl, rfl, by decide +kernel, rfl, by decide +kernel, by decide +kernel⟩
abbrev s_law : Stmt := top 29
abbrev N_law : List Str := ["_law_script", "_law_pages", "_law_now_here", "_law_tallies_here", "_law_cells_here", "_law_handed", "_law_cell", "_law_rule", "_law_ranks", "_law_tally", "_law_k", "_law_one", "_law_other", "_law_found", "_law_row"]
theorem sc_law : FnScope N_law ["_law_script"] (defScope s_law) := ⟨rfl, rfl, rfl, by decide +kernel, rfl, by decide +kernel, by decide +kernel⟩
def fsK0 (K : PySem.W.Frag) (A : List Addr) : Bool := decide (PySem.W.nsIn K mainGlobals "is_whole" = some (some (.ref (A.getD 26 0)))) && (decide (PySem.W.nsIn K mainGlobals "is_within" = some (some (.ref (A.getD 27 0)))) && (decide (PySem.W.nsIn K mainGlobals "_law_cell_at" = some (some (.ref (A.getD 43 0)))) && (decide (PySem.W.nsIn K mainGlobals "_law_whole" = some (some (.ref (A.getD 44 0)))) && (decide (PySem.W.nsIn K mainGlobals "_law_now" = some (some (.ref (A.getD 45 0)))) && (decide (PySem.W.nsIn K mainGlobals "_law_tallies" = some (some (.ref (A.getD 46 0)))) && (decide (PySem.W.nsIn K mainGlobals "_law_first" = some (some (.ref (A.getD 47 0)))) && (decide (PySem.W.nsIn K mainGlobals "_law_base" = some (some (.ref (A.getD 48 0)))) && (decide (PySem.W.nsIn K mainGlobals "_law_made" = some (some (.ref (A.getD 49 0)))) && (decide (PySem.W.nsIn K mainGlobals "_law_rank" = some (some (.ref (A.getD 50 0)))) && (decide (PySem.W.nsIn K mainGlobals "_law_cells" = some (some (.ref (A.getD 51 0)))) && (decide (PySem.W.nsIn K mainGlobals "_law_turned_good" = some (some (.ref (A.getD 52 0)))) && (decide (PySem.W.nsIn K mainGlobals "_law_refused" = some (some (.ref (A.getD 53 0)))) && (decide (PySem.W.nsIn K mainGlobals "law" = some (some (.ref (A.getD 54 0)))) && (cdB K (A.getD 48 0) (A.getD 77 0) && (decide (PySem.W.nsIn K mainGlobals "Rule" = some (some (.ref (A.getD 2 0)))) && (PySem.W.plainGet K (A.getD 2 0) Str.empty && (PySem.W.hasDictIn K (A.getD 2 0) && (PySem.W.plainOver K (A.getD 2 0) && (decide (PySem.W.findIn K (.ref (A.getD 2 0)) "__setattr__" = some (some (.builtin "object.__setattr__"))) && (PySem.W.makesIn K (A.getD 2 0) && (PySem.W.keepIn K (.ref (A.getD 2 0)) && (decide (PySem.W.findIn K (.ref (A.getD 2 0)) "__init__" = some (some (.builtin "object.__init__"))) && (decide (PySem.W.findIn K (.ref (A.getD 2 0)) "goes_ahead" = some (some (.ref (A.getD 28 0)))) && (PySem.W.isFn K (.ref (A.getD 28 0))))))))))))))))))))))))))
theorem fsK0_ok {K : PySem.W.Frag} {A : List Addr} (h : fsK0 K A = true) : (PySem.W.nsIn K mainGlobals "is_whole" = some (some (.ref (A.getD 26 0)))) ∧ (PySem.W.nsIn K mainGlobals "is_within" = some (some (.ref (A.getD 27 0)))) ∧ (PySem.W.nsIn K mainGlobals "_law_cell_at" = some (some (.ref (A.getD 43 0)))) ∧ (PySem.W.nsIn K mainGlobals "_law_whole" = some (some (.ref (A.getD 44 0)))) ∧ (PySem.W.nsIn K mainGlobals "_law_now" = some (some (.ref (A.getD 45 0)))) ∧ (PySem.W.nsIn K mainGlobals "_law_tallies" = some (some (.ref (A.getD 46 0)))) ∧ (PySem.W.nsIn K mainGlobals "_law_first" = some (some (.ref (A.getD 47 0)))) ∧ (PySem.W.nsIn K mainGlobals "_law_base" = some (some (.ref (A.getD 48 0)))) ∧ (PySem.W.nsIn K mainGlobals "_law_made" = some (some (.ref (A.getD 49 0)))) ∧ (PySem.W.nsIn K mainGlobals "_law_rank" = some (some (.ref (A.getD 50 0)))) ∧ (PySem.W.nsIn K mainGlobals "_law_cells" = some (some (.ref (A.getD 51 0)))) ∧ (PySem.W.nsIn K mainGlobals "_law_turned_good" = some (some (.ref (A.getD 52 0)))) ∧ (PySem.W.nsIn K mainGlobals "_law_refused" = some (some (.ref (A.getD 53 0)))) ∧ (PySem.W.nsIn K mainGlobals "law" = some (some (.ref (A.getD 54 0)))) ∧ (cdB K (A.getD 48 0) (A.getD 77 0) = true) ∧ (PySem.W.nsIn K mainGlobals "Rule" = some (some (.ref (A.getD 2 0)))) ∧ (PySem.W.plainGet K (A.getD 2 0) Str.empty = true) ∧ (PySem.W.hasDictIn K (A.getD 2 0) = true) ∧ (PySem.W.plainOver K (A.getD 2 0) = true) ∧ (PySem.W.findIn K (.ref (A.getD 2 0)) "__setattr__" = some (some (.builtin "object.__setattr__"))) ∧ (PySem.W.makesIn K (A.getD 2 0) = true) ∧ (PySem.W.keepIn K (.ref (A.getD 2 0)) = true) ∧ (PySem.W.findIn K (.ref (A.getD 2 0)) "__init__" = some (some (.builtin "object.__init__"))) ∧ (PySem.W.findIn K (.ref (A.getD 2 0)) "goes_ahead" = some (some (.ref (A.getD 28 0)))) ∧ (PySem.W.isFn K (.ref (A.getD 28 0)) = true) := by
  unfold fsK0 at h
  obtain ⟨h0, h⟩ := He.ba h
  obtain ⟨h1, h⟩ := He.ba h
  obtain ⟨h2, h⟩ := He.ba h
  obtain ⟨h3, h⟩ := He.ba h
  obtain ⟨h4, h⟩ := He.ba h
  obtain ⟨h5, h⟩ := He.ba h
  obtain ⟨h6, h⟩ := He.ba h
  obtain ⟨h7, h⟩ := He.ba h
  obtain ⟨h8, h⟩ := He.ba h
  obtain ⟨h9, h⟩ := He.ba h
  obtain ⟨h10, h⟩ := He.ba h
  obtain ⟨h11, h⟩ := He.ba h
  obtain ⟨h12, h⟩ := He.ba h
  obtain ⟨h13, h⟩ := He.ba h
  obtain ⟨h14, h⟩ := He.ba h
  obtain ⟨h15, h⟩ := He.ba h
  obtain ⟨h16, h⟩ := He.ba h
  obtain ⟨h17, h⟩ := He.ba h
  obtain ⟨h18, h⟩ := He.ba h
  obtain ⟨h19, h⟩ := He.ba h
  obtain ⟨h20, h⟩ := He.ba h
  obtain ⟨h21, h⟩ := He.ba h
  obtain ⟨h22, h⟩ := He.ba h
  obtain ⟨h23, h⟩ := He.ba h
  exact ⟨of_decide_eq_true h0, of_decide_eq_true h1, of_decide_eq_true h2, of_decide_eq_true h3, of_decide_eq_true h4, of_decide_eq_true h5, of_decide_eq_true h6, of_decide_eq_true h7, of_decide_eq_true h8, of_decide_eq_true h9, of_decide_eq_true h10, of_decide_eq_true h11, of_decide_eq_true h12, of_decide_eq_true h13, h14, of_decide_eq_true h15, h16, h17, h18, of_decide_eq_true h19, h20, h21, of_decide_eq_true h22, of_decide_eq_true h23, h⟩
def fsK1 (K : PySem.W.Frag) (A : List Addr) : Bool := decide (PySem.W.findIn K (.ref (A.getD 2 0)) "choose" = some (some (.ref (A.getD 29 0)))) && (PySem.W.isFn K (.ref (A.getD 29 0)) && (decide (PySem.W.nsIn K mainGlobals "Fewest" = some (some (.ref (A.getD 3 0)))) && (PySem.W.plainGet K (A.getD 3 0) Str.empty && (PySem.W.hasDictIn K (A.getD 3 0) && (PySem.W.plainOver K (A.getD 3 0) && (decide (PySem.W.findIn K (.ref (A.getD 3 0)) "__setattr__" = some (some (.builtin "object.__setattr__"))) && (PySem.W.makesIn K (A.getD 3 0) && (PySem.W.keepIn K (.ref (A.getD 3 0)) && (decide (PySem.W.findIn K (.ref (A.getD 3 0)) "__init__" = some (some (.builtin "object.__init__"))) && (decide (PySem.W.findIn K (.ref (A.getD 3 0)) "goes_ahead" = some (some (.ref (A.getD 30 0)))) && (PySem.W.isFn K (.ref (A.getD 30 0)) && (decide (PySem.W.findIn K (.ref (A.getD 3 0)) "choose" = some (some (.ref (A.getD 29 0)))) && (decide (PySem.W.nsIn K mainGlobals "Eldest" = some (some (.ref (A.getD 4 0)))) && (PySem.W.plainGet K (A.getD 4 0) Str.empty && (PySem.W.hasDictIn K (A.getD 4 0) && (PySem.W.plainOver K (A.getD 4 0) && (decide (PySem.W.findIn K (.ref (A.getD 4 0)) "__setattr__" = some (some (.builtin "object.__setattr__"))) && (PySem.W.makesIn K (A.getD 4 0) && (PySem.W.keepIn K (.ref (A.getD 4 0)) && (decide (PySem.W.findIn K (.ref (A.getD 4 0)) "__init__" = some (some (.builtin "object.__init__"))) && (decide (PySem.W.findIn K (.ref (A.getD 4 0)) "goes_ahead" = some (some (.ref (A.getD 31 0)))) && (PySem.W.isFn K (.ref (A.getD 31 0)) && (decide (PySem.W.findIn K (.ref (A.getD 4 0)) "choose" = some (some (.ref (A.getD 29 0)))) && (decide (PySem.W.nsIn K mainGlobals "Worth" = some (some (.ref (A.getD 5 0))))))))))))))))))))))))))))
theorem fsK1_ok {K : PySem.W.Frag} {A : List Addr} (h : fsK1 K A = true) : (PySem.W.findIn K (.ref (A.getD 2 0)) "choose" = some (some (.ref (A.getD 29 0)))) ∧ (PySem.W.isFn K (.ref (A.getD 29 0)) = true) ∧ (PySem.W.nsIn K mainGlobals "Fewest" = some (some (.ref (A.getD 3 0)))) ∧ (PySem.W.plainGet K (A.getD 3 0) Str.empty = true) ∧ (PySem.W.hasDictIn K (A.getD 3 0) = true) ∧ (PySem.W.plainOver K (A.getD 3 0) = true) ∧ (PySem.W.findIn K (.ref (A.getD 3 0)) "__setattr__" = some (some (.builtin "object.__setattr__"))) ∧ (PySem.W.makesIn K (A.getD 3 0) = true) ∧ (PySem.W.keepIn K (.ref (A.getD 3 0)) = true) ∧ (PySem.W.findIn K (.ref (A.getD 3 0)) "__init__" = some (some (.builtin "object.__init__"))) ∧ (PySem.W.findIn K (.ref (A.getD 3 0)) "goes_ahead" = some (some (.ref (A.getD 30 0)))) ∧ (PySem.W.isFn K (.ref (A.getD 30 0)) = true) ∧ (PySem.W.findIn K (.ref (A.getD 3 0)) "choose" = some (some (.ref (A.getD 29 0)))) ∧ (PySem.W.nsIn K mainGlobals "Eldest" = some (some (.ref (A.getD 4 0)))) ∧ (PySem.W.plainGet K (A.getD 4 0) Str.empty = true) ∧ (PySem.W.hasDictIn K (A.getD 4 0) = true) ∧ (PySem.W.plainOver K (A.getD 4 0) = true) ∧ (PySem.W.findIn K (.ref (A.getD 4 0)) "__setattr__" = some (some (.builtin "object.__setattr__"))) ∧ (PySem.W.makesIn K (A.getD 4 0) = true) ∧ (PySem.W.keepIn K (.ref (A.getD 4 0)) = true) ∧ (PySem.W.findIn K (.ref (A.getD 4 0)) "__init__" = some (some (.builtin "object.__init__"))) ∧ (PySem.W.findIn K (.ref (A.getD 4 0)) "goes_ahead" = some (some (.ref (A.getD 31 0)))) ∧ (PySem.W.isFn K (.ref (A.getD 31 0)) = true) ∧ (PySem.W.findIn K (.ref (A.getD 4 0)) "choose" = some (some (.ref (A.getD 29 0)))) ∧ (PySem.W.nsIn K mainGlobals "Worth" = some (some (.ref (A.getD 5 0)))) := by
  unfold fsK1 at h
  obtain ⟨h0, h⟩ := He.ba h
  obtain ⟨h1, h⟩ := He.ba h
  obtain ⟨h2, h⟩ := He.ba h
  obtain ⟨h3, h⟩ := He.ba h
  obtain ⟨h4, h⟩ := He.ba h
  obtain ⟨h5, h⟩ := He.ba h
  obtain ⟨h6, h⟩ := He.ba h
  obtain ⟨h7, h⟩ := He.ba h
  obtain ⟨h8, h⟩ := He.ba h
  obtain ⟨h9, h⟩ := He.ba h
  obtain ⟨h10, h⟩ := He.ba h
  obtain ⟨h11, h⟩ := He.ba h
  obtain ⟨h12, h⟩ := He.ba h
  obtain ⟨h13, h⟩ := He.ba h
  obtain ⟨h14, h⟩ := He.ba h
  obtain ⟨h15, h⟩ := He.ba h
  obtain ⟨h16, h⟩ := He.ba h
  obtain ⟨h17, h⟩ := He.ba h
  obtain ⟨h18, h⟩ := He.ba h
  obtain ⟨h19, h⟩ := He.ba h
  obtain ⟨h20, h⟩ := He.ba h
  obtain ⟨h21, h⟩ := He.ba h
  obtain ⟨h22, h⟩ := He.ba h
  obtain ⟨h23, h⟩ := He.ba h
  exact ⟨of_decide_eq_true h0, h1, of_decide_eq_true h2, h3, h4, h5, of_decide_eq_true h6, h7, h8, of_decide_eq_true h9, of_decide_eq_true h10, h11, of_decide_eq_true h12, of_decide_eq_true h13, h14, h15, h16, of_decide_eq_true h17, h18, h19, of_decide_eq_true h20, of_decide_eq_true h21, h22, of_decide_eq_true h23, of_decide_eq_true h⟩
def fsK2 (K : PySem.W.Frag) (A : List Addr) : Bool := PySem.W.plainGet K (A.getD 5 0) Str.empty && (PySem.W.hasDictIn K (A.getD 5 0) && (PySem.W.plainOver K (A.getD 5 0) && (decide (PySem.W.findIn K (.ref (A.getD 5 0)) "__setattr__" = some (some (.builtin "object.__setattr__"))) && (PySem.W.makesIn K (A.getD 5 0) && (PySem.W.keepIn K (.ref (A.getD 5 0)) && (decide (PySem.W.findIn K (.ref (A.getD 5 0)) "__init__" = some (some (.builtin "object.__init__"))) && (decide (PySem.W.findIn K (.ref (A.getD 5 0)) "goes_ahead" = some (some (.ref (A.getD 32 0)))) && (PySem.W.isFn K (.ref (A.getD 32 0)) && (decide (PySem.W.findIn K (.ref (A.getD 5 0)) "choose" = some (some (.ref (A.getD 29 0)))) && (decide (PySem.W.nsIn K mainGlobals "Weighed" = some (some (.ref (A.getD 6 0)))) && (PySem.W.plainGet K (A.getD 6 0) Str.empty && (PySem.W.hasDictIn K (A.getD 6 0) && (PySem.W.plainOver K (A.getD 6 0) && (decide (PySem.W.findIn K (.ref (A.getD 6 0)) "__setattr__" = some (some (.builtin "object.__setattr__"))) && (decide (PySem.W.findIn K (.ref (A.getD 6 0)) "weigh" = some none) && (decide (PySem.W.findIn K (.ref (A.getD 6 0)) "goes_ahead" = some (some (.ref (A.getD 34 0)))) && (PySem.W.isFn K (.ref (A.getD 34 0)) && (decide (PySem.W.findIn K (.ref (A.getD 6 0)) "choose" = some (some (.ref (A.getD 29 0)))) && (decide (PySem.W.findIn K (.ref (A.getD 6 0)) "__init__" = some (some (.ref (A.getD 33 0)))) && (PySem.W.isFn K (.ref (A.getD 33 0)) && (PySem.W.makesIn K (A.getD 6 0) && (PySem.W.keepIn K (.ref (A.getD 6 0)) && (decide (PySem.W.nsIn K mainGlobals "Turned" = some (some (.ref (A.getD 7 0)))) && (PySem.W.plainGet K (A.getD 7 0) Str.empty))))))))))))))))))))))))
theorem fsK2_ok {K : PySem.W.Frag} {A : List Addr} (h : fsK2 K A = true) : (PySem.W.plainGet K (A.getD 5 0) Str.empty = true) ∧ (PySem.W.hasDictIn K (A.getD 5 0) = true) ∧ (PySem.W.plainOver K (A.getD 5 0) = true) ∧ (PySem.W.findIn K (.ref (A.getD 5 0)) "__setattr__" = some (some (.builtin "object.__setattr__"))) ∧ (PySem.W.makesIn K (A.getD 5 0) = true) ∧ (PySem.W.keepIn K (.ref (A.getD 5 0)) = true) ∧ (PySem.W.findIn K (.ref (A.getD 5 0)) "__init__" = some (some (.builtin "object.__init__"))) ∧ (PySem.W.findIn K (.ref (A.getD 5 0)) "goes_ahead" = some (some (.ref (A.getD 32 0)))) ∧ (PySem.W.isFn K (.ref (A.getD 32 0)) = true) ∧ (PySem.W.findIn K (.ref (A.getD 5 0)) "choose" = some (some (.ref (A.getD 29 0)))) ∧ (PySem.W.nsIn K mainGlobals "Weighed" = some (some (.ref (A.getD 6 0)))) ∧ (PySem.W.plainGet K (A.getD 6 0) Str.empty = true) ∧ (PySem.W.hasDictIn K (A.getD 6 0) = true) ∧ (PySem.W.plainOver K (A.getD 6 0) = true) ∧ (PySem.W.findIn K (.ref (A.getD 6 0)) "__setattr__" = some (some (.builtin "object.__setattr__"))) ∧ (PySem.W.findIn K (.ref (A.getD 6 0)) "weigh" = some none) ∧ (PySem.W.findIn K (.ref (A.getD 6 0)) "goes_ahead" = some (some (.ref (A.getD 34 0)))) ∧ (PySem.W.isFn K (.ref (A.getD 34 0)) = true) ∧ (PySem.W.findIn K (.ref (A.getD 6 0)) "choose" = some (some (.ref (A.getD 29 0)))) ∧ (PySem.W.findIn K (.ref (A.getD 6 0)) "__init__" = some (some (.ref (A.getD 33 0)))) ∧ (PySem.W.isFn K (.ref (A.getD 33 0)) = true) ∧ (PySem.W.makesIn K (A.getD 6 0) = true) ∧ (PySem.W.keepIn K (.ref (A.getD 6 0)) = true) ∧ (PySem.W.nsIn K mainGlobals "Turned" = some (some (.ref (A.getD 7 0)))) ∧ (PySem.W.plainGet K (A.getD 7 0) Str.empty = true) := by
  unfold fsK2 at h
  obtain ⟨h0, h⟩ := He.ba h
  obtain ⟨h1, h⟩ := He.ba h
  obtain ⟨h2, h⟩ := He.ba h
  obtain ⟨h3, h⟩ := He.ba h
  obtain ⟨h4, h⟩ := He.ba h
  obtain ⟨h5, h⟩ := He.ba h
  obtain ⟨h6, h⟩ := He.ba h
  obtain ⟨h7, h⟩ := He.ba h
  obtain ⟨h8, h⟩ := He.ba h
  obtain ⟨h9, h⟩ := He.ba h
  obtain ⟨h10, h⟩ := He.ba h
  obtain ⟨h11, h⟩ := He.ba h
  obtain ⟨h12, h⟩ := He.ba h
  obtain ⟨h13, h⟩ := He.ba h
  obtain ⟨h14, h⟩ := He.ba h
  obtain ⟨h15, h⟩ := He.ba h
  obtain ⟨h16, h⟩ := He.ba h
  obtain ⟨h17, h⟩ := He.ba h
  obtain ⟨h18, h⟩ := He.ba h
  obtain ⟨h19, h⟩ := He.ba h
  obtain ⟨h20, h⟩ := He.ba h
  obtain ⟨h21, h⟩ := He.ba h
  obtain ⟨h22, h⟩ := He.ba h
  obtain ⟨h23, h⟩ := He.ba h
  exact ⟨h0, h1, h2, of_decide_eq_true h3, h4, h5, of_decide_eq_true h6, of_decide_eq_true h7, h8, of_decide_eq_true h9, of_decide_eq_true h10, h11, h12, h13, of_decide_eq_true h14, of_decide_eq_true h15, of_decide_eq_true h16, h17, of_decide_eq_true h18, of_decide_eq_true h19, h20, h21, h22, of_decide_eq_true h23, h⟩
def fsK3 (K : PySem.W.Frag) (A : List Addr) : Bool := PySem.W.hasDictIn K (A.getD 7 0) && (PySem.W.plainOver K (A.getD 7 0) && (decide (PySem.W.findIn K (.ref (A.getD 7 0)) "__setattr__" = some (some (.builtin "object.__setattr__"))) && (decide (PySem.W.findIn K (.ref (A.getD 7 0)) "rule" = some none) && (decide (PySem.W.findIn K (.ref (A.getD 7 0)) "goes_ahead" = some (some (.ref (A.getD 36 0)))) && (PySem.W.isFn K (.ref (A.getD 36 0)) && (decide (PySem.W.findIn K (.ref (A.getD 7 0)) "choose" = some (some (.ref (A.getD 29 0)))) && (decide (PySem.W.findIn K (.ref (A.getD 7 0)) "__init__" = some (some (.ref (A.getD 35 0)))) && (PySem.W.isFn K (.ref (A.getD 35 0)) && (PySem.W.makesIn K (A.getD 7 0) && (PySem.W.keepIn K (.ref (A.getD 7 0)) && (decide (PySem.W.nsIn K mainGlobals "Order" = some (some (.ref (A.getD 8 0)))) && (PySem.W.plainGet K (A.getD 8 0) Str.empty && (PySem.W.hasDictIn K (A.getD 8 0) && (PySem.W.plainOver K (A.getD 8 0) && (decide (PySem.W.findIn K (.ref (A.getD 8 0)) "__setattr__" = some (some (.builtin "object.__setattr__"))) && (decide (PySem.W.findIn K (.ref (A.getD 8 0)) "rules" = some none) && (decide (PySem.W.findIn K (.ref (A.getD 8 0)) "goes_ahead" = some (some (.ref (A.getD 38 0)))) && (PySem.W.isFn K (.ref (A.getD 38 0)) && (decide (PySem.W.findIn K (.ref (A.getD 8 0)) "choose" = some (some (.ref (A.getD 29 0)))) && (decide (PySem.W.findIn K (.ref (A.getD 8 0)) "__init__" = some (some (.ref (A.getD 37 0)))) && (PySem.W.isFn K (.ref (A.getD 37 0)) && (PySem.W.makesIn K (A.getD 8 0) && (PySem.W.keepIn K (.ref (A.getD 8 0)) && (decide (PySem.W.nsIn K mainGlobals "Window" = some (some (.ref (A.getD 9 0))))))))))))))))))))))))))))
theorem fsK3_ok {K : PySem.W.Frag} {A : List Addr} (h : fsK3 K A = true) : (PySem.W.hasDictIn K (A.getD 7 0) = true) ∧ (PySem.W.plainOver K (A.getD 7 0) = true) ∧ (PySem.W.findIn K (.ref (A.getD 7 0)) "__setattr__" = some (some (.builtin "object.__setattr__"))) ∧ (PySem.W.findIn K (.ref (A.getD 7 0)) "rule" = some none) ∧ (PySem.W.findIn K (.ref (A.getD 7 0)) "goes_ahead" = some (some (.ref (A.getD 36 0)))) ∧ (PySem.W.isFn K (.ref (A.getD 36 0)) = true) ∧ (PySem.W.findIn K (.ref (A.getD 7 0)) "choose" = some (some (.ref (A.getD 29 0)))) ∧ (PySem.W.findIn K (.ref (A.getD 7 0)) "__init__" = some (some (.ref (A.getD 35 0)))) ∧ (PySem.W.isFn K (.ref (A.getD 35 0)) = true) ∧ (PySem.W.makesIn K (A.getD 7 0) = true) ∧ (PySem.W.keepIn K (.ref (A.getD 7 0)) = true) ∧ (PySem.W.nsIn K mainGlobals "Order" = some (some (.ref (A.getD 8 0)))) ∧ (PySem.W.plainGet K (A.getD 8 0) Str.empty = true) ∧ (PySem.W.hasDictIn K (A.getD 8 0) = true) ∧ (PySem.W.plainOver K (A.getD 8 0) = true) ∧ (PySem.W.findIn K (.ref (A.getD 8 0)) "__setattr__" = some (some (.builtin "object.__setattr__"))) ∧ (PySem.W.findIn K (.ref (A.getD 8 0)) "rules" = some none) ∧ (PySem.W.findIn K (.ref (A.getD 8 0)) "goes_ahead" = some (some (.ref (A.getD 38 0)))) ∧ (PySem.W.isFn K (.ref (A.getD 38 0)) = true) ∧ (PySem.W.findIn K (.ref (A.getD 8 0)) "choose" = some (some (.ref (A.getD 29 0)))) ∧ (PySem.W.findIn K (.ref (A.getD 8 0)) "__init__" = some (some (.ref (A.getD 37 0)))) ∧ (PySem.W.isFn K (.ref (A.getD 37 0)) = true) ∧ (PySem.W.makesIn K (A.getD 8 0) = true) ∧ (PySem.W.keepIn K (.ref (A.getD 8 0)) = true) ∧ (PySem.W.nsIn K mainGlobals "Window" = some (some (.ref (A.getD 9 0)))) := by
  unfold fsK3 at h
  obtain ⟨h0, h⟩ := He.ba h
  obtain ⟨h1, h⟩ := He.ba h
  obtain ⟨h2, h⟩ := He.ba h
  obtain ⟨h3, h⟩ := He.ba h
  obtain ⟨h4, h⟩ := He.ba h
  obtain ⟨h5, h⟩ := He.ba h
  obtain ⟨h6, h⟩ := He.ba h
  obtain ⟨h7, h⟩ := He.ba h
  obtain ⟨h8, h⟩ := He.ba h
  obtain ⟨h9, h⟩ := He.ba h
  obtain ⟨h10, h⟩ := He.ba h
  obtain ⟨h11, h⟩ := He.ba h
  obtain ⟨h12, h⟩ := He.ba h
  obtain ⟨h13, h⟩ := He.ba h
  obtain ⟨h14, h⟩ := He.ba h
  obtain ⟨h15, h⟩ := He.ba h
  obtain ⟨h16, h⟩ := He.ba h
  obtain ⟨h17, h⟩ := He.ba h
  obtain ⟨h18, h⟩ := He.ba h
  obtain ⟨h19, h⟩ := He.ba h
  obtain ⟨h20, h⟩ := He.ba h
  obtain ⟨h21, h⟩ := He.ba h
  obtain ⟨h22, h⟩ := He.ba h
  obtain ⟨h23, h⟩ := He.ba h
  exact ⟨h0, h1, of_decide_eq_true h2, of_decide_eq_true h3, of_decide_eq_true h4, h5, of_decide_eq_true h6, of_decide_eq_true h7, h8, h9, h10, of_decide_eq_true h11, h12, h13, h14, of_decide_eq_true h15, of_decide_eq_true h16, of_decide_eq_true h17, h18, of_decide_eq_true h19, of_decide_eq_true h20, h21, h22, h23, of_decide_eq_true h⟩
def fsK4 (K : PySem.W.Frag) (A : List Addr) : Bool := PySem.W.plainGet K (A.getD 9 0) Str.empty && (PySem.W.hasDictIn K (A.getD 9 0) && (PySem.W.plainOver K (A.getD 9 0) && (decide (PySem.W.findIn K (.ref (A.getD 9 0)) "__setattr__" = some (some (.builtin "object.__setattr__"))) && (decide (PySem.W.findIn K (.ref (A.getD 9 0)) "many" = some none) && (decide (PySem.W.findIn K (.ref (A.getD 9 0)) "goes_ahead" = some (some (.ref (A.getD 30 0)))) && (decide (PySem.W.findIn K (.ref (A.getD 9 0)) "choose" = some (some (.ref (A.getD 40 0)))) && (PySem.W.isFn K (.ref (A.getD 40 0)) && (decide (PySem.W.findIn K (.ref (A.getD 9 0)) "__init__" = some (some (.ref (A.getD 39 0)))) && (PySem.W.isFn K (.ref (A.getD 39 0)) && (PySem.W.makesIn K (A.getD 9 0) && (PySem.W.keepIn K (.ref (A.getD 9 0)) && (decide (PySem.W.nsIn K mainGlobals "Follow" = some (some (.ref (A.getD 10 0)))) && (PySem.W.plainGet K (A.getD 10 0) Str.empty && (PySem.W.hasDictIn K (A.getD 10 0) && (PySem.W.plainOver K (A.getD 10 0) && (decide (PySem.W.findIn K (.ref (A.getD 10 0)) "__setattr__" = some (some (.builtin "object.__setattr__"))) && (decide (PySem.W.findIn K (.ref (A.getD 10 0)) "blocks" = some none) && (decide (PySem.W.findIn K (.ref (A.getD 10 0)) "asked" = some none) && (decide (PySem.W.findIn K (.ref (A.getD 10 0)) "goes_ahead" = some (some (.ref (A.getD 28 0)))) && (decide (PySem.W.findIn K (.ref (A.getD 10 0)) "choose" = some (some (.ref (A.getD 42 0)))) && (PySem.W.isFn K (.ref (A.getD 42 0)) && (decide (PySem.W.findIn K (.ref (A.getD 10 0)) "__init__" = some (some (.ref (A.getD 41 0)))) && (PySem.W.isFn K (.ref (A.getD 41 0)) && (PySem.W.makesIn K (A.getD 10 0)))))))))))))))))))))))))
theorem fsK4_ok {K : PySem.W.Frag} {A : List Addr} (h : fsK4 K A = true) : (PySem.W.plainGet K (A.getD 9 0) Str.empty = true) ∧ (PySem.W.hasDictIn K (A.getD 9 0) = true) ∧ (PySem.W.plainOver K (A.getD 9 0) = true) ∧ (PySem.W.findIn K (.ref (A.getD 9 0)) "__setattr__" = some (some (.builtin "object.__setattr__"))) ∧ (PySem.W.findIn K (.ref (A.getD 9 0)) "many" = some none) ∧ (PySem.W.findIn K (.ref (A.getD 9 0)) "goes_ahead" = some (some (.ref (A.getD 30 0)))) ∧ (PySem.W.findIn K (.ref (A.getD 9 0)) "choose" = some (some (.ref (A.getD 40 0)))) ∧ (PySem.W.isFn K (.ref (A.getD 40 0)) = true) ∧ (PySem.W.findIn K (.ref (A.getD 9 0)) "__init__" = some (some (.ref (A.getD 39 0)))) ∧ (PySem.W.isFn K (.ref (A.getD 39 0)) = true) ∧ (PySem.W.makesIn K (A.getD 9 0) = true) ∧ (PySem.W.keepIn K (.ref (A.getD 9 0)) = true) ∧ (PySem.W.nsIn K mainGlobals "Follow" = some (some (.ref (A.getD 10 0)))) ∧ (PySem.W.plainGet K (A.getD 10 0) Str.empty = true) ∧ (PySem.W.hasDictIn K (A.getD 10 0) = true) ∧ (PySem.W.plainOver K (A.getD 10 0) = true) ∧ (PySem.W.findIn K (.ref (A.getD 10 0)) "__setattr__" = some (some (.builtin "object.__setattr__"))) ∧ (PySem.W.findIn K (.ref (A.getD 10 0)) "blocks" = some none) ∧ (PySem.W.findIn K (.ref (A.getD 10 0)) "asked" = some none) ∧ (PySem.W.findIn K (.ref (A.getD 10 0)) "goes_ahead" = some (some (.ref (A.getD 28 0)))) ∧ (PySem.W.findIn K (.ref (A.getD 10 0)) "choose" = some (some (.ref (A.getD 42 0)))) ∧ (PySem.W.isFn K (.ref (A.getD 42 0)) = true) ∧ (PySem.W.findIn K (.ref (A.getD 10 0)) "__init__" = some (some (.ref (A.getD 41 0)))) ∧ (PySem.W.isFn K (.ref (A.getD 41 0)) = true) ∧ (PySem.W.makesIn K (A.getD 10 0) = true) := by
  unfold fsK4 at h
  obtain ⟨h0, h⟩ := He.ba h
  obtain ⟨h1, h⟩ := He.ba h
  obtain ⟨h2, h⟩ := He.ba h
  obtain ⟨h3, h⟩ := He.ba h
  obtain ⟨h4, h⟩ := He.ba h
  obtain ⟨h5, h⟩ := He.ba h
  obtain ⟨h6, h⟩ := He.ba h
  obtain ⟨h7, h⟩ := He.ba h
  obtain ⟨h8, h⟩ := He.ba h
  obtain ⟨h9, h⟩ := He.ba h
  obtain ⟨h10, h⟩ := He.ba h
  obtain ⟨h11, h⟩ := He.ba h
  obtain ⟨h12, h⟩ := He.ba h
  obtain ⟨h13, h⟩ := He.ba h
  obtain ⟨h14, h⟩ := He.ba h
  obtain ⟨h15, h⟩ := He.ba h
  obtain ⟨h16, h⟩ := He.ba h
  obtain ⟨h17, h⟩ := He.ba h
  obtain ⟨h18, h⟩ := He.ba h
  obtain ⟨h19, h⟩ := He.ba h
  obtain ⟨h20, h⟩ := He.ba h
  obtain ⟨h21, h⟩ := He.ba h
  obtain ⟨h22, h⟩ := He.ba h
  obtain ⟨h23, h⟩ := He.ba h
  exact ⟨h0, h1, h2, of_decide_eq_true h3, of_decide_eq_true h4, of_decide_eq_true h5, of_decide_eq_true h6, h7, of_decide_eq_true h8, h9, h10, h11, of_decide_eq_true h12, h13, h14, h15, of_decide_eq_true h16, of_decide_eq_true h17, of_decide_eq_true h18, of_decide_eq_true h19, of_decide_eq_true h20, h21, of_decide_eq_true h22, h23, h⟩
def fsK5 (K : PySem.W.Frag) (A : List Addr) : Bool := PySem.W.keepIn K (.ref (A.getD 10 0)) && (decide (PySem.W.nsIn K mainGlobals "WornError" = some (some (.ref (A.getD 11 0)))) && (PySem.W.excIn K (A.getD 11 0) [.type "ValueError", .type "Exception", .type "BaseException", .type "object"] "ValueError.__new__" && (PySem.W.keepIn K (.ref (A.getD 11 0)) && (decide (PySem.W.subIn K (.ref (A.getD 11 0)) (.type "BaseException") = some true) && (decide (PySem.W.typeIn K (.ref (A.getD 11 0)) = some (.type "type")) && (decide (PySem.W.nsIn K mainGlobals "NoRule" = some (some (.ref (A.getD 12 0)))) && (PySem.W.excIn K (A.getD 12 0) [.type "ValueError", .type "Exception", .type "BaseException", .type "object"] "ValueError.__new__" && (PySem.W.keepIn K (.ref (A.getD 12 0)) && (decide (PySem.W.subIn K (.ref (A.getD 12 0)) (.type "BaseException") = some true) && (decide (PySem.W.typeIn K (.ref (A.getD 12 0)) = some (.type "type")) && (decide (PySem.W.nsIn K mainGlobals "NoRace" = some (some (.ref (A.getD 13 0)))) && (PySem.W.excIn K (A.getD 13 0) [.type "ValueError", .type "Exception", .type "BaseException", .type "object"] "ValueError.__new__" && (PySem.W.keepIn K (.ref (A.getD 13 0)) && (decide (PySem.W.subIn K (.ref (A.getD 13 0)) (.type "BaseException") = some true) && (decide (PySem.W.typeIn K (.ref (A.getD 13 0)) = some (.type "type")) && (decide (PySem.W.exmOne K (.ref (A.getD 12 0)) (.ref (A.getD 11 0)) = some true) && (decide (PySem.W.findIn K (.ref (A.getD 12 0)) "__getattribute__" = some (some (.builtin "BaseException.__getattribute__"))) && (decide (PySem.W.findIn K (.ref (A.getD 12 0)) "__getattr__" = some none) && (decide (PySem.W.subIn K (.ref (A.getD 12 0)) (.type "BaseException") = some true) && (PySem.W.hasDictIn K (A.getD 12 0) && (decide (PySem.W.findIn K (.ref (A.getD 12 0)) "__class__" = some (some (.builtin "object.__class__"))) && (decide (PySem.W.specialIn K (.builtin "object.__class__") "__get__" = some (some (.builtin "getset_descriptor.__get__"))) && (decide (PySem.W.takesIn K (.builtin "object.__class__") = some true) && (decide (PySem.W.mroIn K (A.getD 12 0) (.type "object") = some true)))))))))))))))))))))))))
theorem fsK5_ok {K : PySem.W.Frag} {A : List Addr} (h : fsK5 K A = true) : (PySem.W.keepIn K (.ref (A.getD 10 0)) = true) ∧ (PySem.W.nsIn K mainGlobals "WornError" = some (some (.ref (A.getD 11 0)))) ∧ (PySem.W.excIn K (A.getD 11 0) [.type "ValueError", .type "Exception", .type "BaseException", .type "object"] "ValueError.__new__" = true) ∧ (PySem.W.keepIn K (.ref (A.getD 11 0)) = true) ∧ (PySem.W.subIn K (.ref (A.getD 11 0)) (.type "BaseException") = some true) ∧ (PySem.W.typeIn K (.ref (A.getD 11 0)) = some (.type "type")) ∧ (PySem.W.nsIn K mainGlobals "NoRule" = some (some (.ref (A.getD 12 0)))) ∧ (PySem.W.excIn K (A.getD 12 0) [.type "ValueError", .type "Exception", .type "BaseException", .type "object"] "ValueError.__new__" = true) ∧ (PySem.W.keepIn K (.ref (A.getD 12 0)) = true) ∧ (PySem.W.subIn K (.ref (A.getD 12 0)) (.type "BaseException") = some true) ∧ (PySem.W.typeIn K (.ref (A.getD 12 0)) = some (.type "type")) ∧ (PySem.W.nsIn K mainGlobals "NoRace" = some (some (.ref (A.getD 13 0)))) ∧ (PySem.W.excIn K (A.getD 13 0) [.type "ValueError", .type "Exception", .type "BaseException", .type "object"] "ValueError.__new__" = true) ∧ (PySem.W.keepIn K (.ref (A.getD 13 0)) = true) ∧ (PySem.W.subIn K (.ref (A.getD 13 0)) (.type "BaseException") = some true) ∧ (PySem.W.typeIn K (.ref (A.getD 13 0)) = some (.type "type")) ∧ (PySem.W.exmOne K (.ref (A.getD 12 0)) (.ref (A.getD 11 0)) = some true) ∧ (PySem.W.findIn K (.ref (A.getD 12 0)) "__getattribute__" = some (some (.builtin "BaseException.__getattribute__"))) ∧ (PySem.W.findIn K (.ref (A.getD 12 0)) "__getattr__" = some none) ∧ (PySem.W.subIn K (.ref (A.getD 12 0)) (.type "BaseException") = some true) ∧ (PySem.W.hasDictIn K (A.getD 12 0) = true) ∧ (PySem.W.findIn K (.ref (A.getD 12 0)) "__class__" = some (some (.builtin "object.__class__"))) ∧ (PySem.W.specialIn K (.builtin "object.__class__") "__get__" = some (some (.builtin "getset_descriptor.__get__"))) ∧ (PySem.W.takesIn K (.builtin "object.__class__") = some true) ∧ (PySem.W.mroIn K (A.getD 12 0) (.type "object") = some true) := by
  unfold fsK5 at h
  obtain ⟨h0, h⟩ := He.ba h
  obtain ⟨h1, h⟩ := He.ba h
  obtain ⟨h2, h⟩ := He.ba h
  obtain ⟨h3, h⟩ := He.ba h
  obtain ⟨h4, h⟩ := He.ba h
  obtain ⟨h5, h⟩ := He.ba h
  obtain ⟨h6, h⟩ := He.ba h
  obtain ⟨h7, h⟩ := He.ba h
  obtain ⟨h8, h⟩ := He.ba h
  obtain ⟨h9, h⟩ := He.ba h
  obtain ⟨h10, h⟩ := He.ba h
  obtain ⟨h11, h⟩ := He.ba h
  obtain ⟨h12, h⟩ := He.ba h
  obtain ⟨h13, h⟩ := He.ba h
  obtain ⟨h14, h⟩ := He.ba h
  obtain ⟨h15, h⟩ := He.ba h
  obtain ⟨h16, h⟩ := He.ba h
  obtain ⟨h17, h⟩ := He.ba h
  obtain ⟨h18, h⟩ := He.ba h
  obtain ⟨h19, h⟩ := He.ba h
  obtain ⟨h20, h⟩ := He.ba h
  obtain ⟨h21, h⟩ := He.ba h
  obtain ⟨h22, h⟩ := He.ba h
  obtain ⟨h23, h⟩ := He.ba h
  exact ⟨h0, of_decide_eq_true h1, h2, h3, of_decide_eq_true h4, of_decide_eq_true h5, of_decide_eq_true h6, h7, h8, of_decide_eq_true h9, of_decide_eq_true h10, of_decide_eq_true h11, h12, h13, of_decide_eq_true h14, of_decide_eq_true h15, of_decide_eq_true h16, of_decide_eq_true h17, of_decide_eq_true h18, of_decide_eq_true h19, h20, of_decide_eq_true h21, of_decide_eq_true h22, of_decide_eq_true h23, of_decide_eq_true h⟩
def fsK6 (K : PySem.W.Frag) (A : List Addr) : Bool := decide (PySem.W.kitOne K (.ref (A.getD 12 0)) (.type "ValueError") = some true) && (decide (PySem.W.kitOne K (.ref (A.getD 12 0)) (.ref (A.getD 12 0)) = some true) && (decide (PySem.W.kitOne K (.ref (A.getD 12 0)) (.ref (A.getD 13 0)) = some false) && (decide (PySem.W.nsIn K mainGlobals "len" = some none) && (decide (PySem.W.nsIn K mainGlobals "isinstance" = some none) && (decide (PySem.W.nsIn K mainGlobals "min" = some none) && (decide (PySem.W.nsIn K mainGlobals "max" = some none) && (decide (PySem.W.nsIn K mainGlobals "sorted" = some none) && (decide (PySem.W.nsIn K mainGlobals "int" = some none) && (decide (PySem.W.nsIn K mainGlobals "list" = some none) && (decide (PySem.W.nsIn K mainGlobals "bool" = some none) && (decide (PySem.W.nsIn K mainGlobals "range" = some none) && (decide (PySem.W.nsIn K mainGlobals "zip" = some none) && (decide (PySem.W.nsIn K mainGlobals "ValueError" = some none))))))))))))))
theorem fsK6_ok {K : PySem.W.Frag} {A : List Addr} (h : fsK6 K A = true) : (PySem.W.kitOne K (.ref (A.getD 12 0)) (.type "ValueError") = some true) ∧ (PySem.W.kitOne K (.ref (A.getD 12 0)) (.ref (A.getD 12 0)) = some true) ∧ (PySem.W.kitOne K (.ref (A.getD 12 0)) (.ref (A.getD 13 0)) = some false) ∧ (PySem.W.nsIn K mainGlobals "len" = some none) ∧ (PySem.W.nsIn K mainGlobals "isinstance" = some none) ∧ (PySem.W.nsIn K mainGlobals "min" = some none) ∧ (PySem.W.nsIn K mainGlobals "max" = some none) ∧ (PySem.W.nsIn K mainGlobals "sorted" = some none) ∧ (PySem.W.nsIn K mainGlobals "int" = some none) ∧ (PySem.W.nsIn K mainGlobals "list" = some none) ∧ (PySem.W.nsIn K mainGlobals "bool" = some none) ∧ (PySem.W.nsIn K mainGlobals "range" = some none) ∧ (PySem.W.nsIn K mainGlobals "zip" = some none) ∧ (PySem.W.nsIn K mainGlobals "ValueError" = some none) := by
  unfold fsK6 at h
  obtain ⟨h0, h⟩ := He.ba h
  obtain ⟨h1, h⟩ := He.ba h
  obtain ⟨h2, h⟩ := He.ba h
  obtain ⟨h3, h⟩ := He.ba h
  obtain ⟨h4, h⟩ := He.ba h
  obtain ⟨h5, h⟩ := He.ba h
  obtain ⟨h6, h⟩ := He.ba h
  obtain ⟨h7, h⟩ := He.ba h
  obtain ⟨h8, h⟩ := He.ba h
  obtain ⟨h9, h⟩ := He.ba h
  obtain ⟨h10, h⟩ := He.ba h
  obtain ⟨h11, h⟩ := He.ba h
  obtain ⟨h12, h⟩ := He.ba h
  exact ⟨of_decide_eq_true h0, of_decide_eq_true h1, of_decide_eq_true h2, of_decide_eq_true h3, of_decide_eq_true h4, of_decide_eq_true h5, of_decide_eq_true h6, of_decide_eq_true h7, of_decide_eq_true h8, of_decide_eq_true h9, of_decide_eq_true h10, of_decide_eq_true h11, of_decide_eq_true h12, of_decide_eq_true h⟩
def fsK (K : PySem.W.Frag) (A : List Addr) : Bool := fsK0 K A && (fsK1 K A && (fsK2 K A && (fsK3 K A && (fsK4 K A && (fsK5 K A && (fsK6 K A))))))
def fnK0 : List DefK := [⟨26, "is_whole", "is_whole", defArgs s_is_whole, defBody s_is_whole, defScope s_is_whole, []⟩,
  ⟨27, "is_within", "is_within", defArgs s_is_within, defBody s_is_within, defScope s_is_within, []⟩,
  ⟨28, "goes_ahead", "Rule.goes_ahead", defArgs s_Rule_goes_ahead, defBody s_Rule_goes_ahead, defScope s_Rule_goes_ahead, []⟩,
  ⟨29, "choose", "Rule.choose", defArgs s_Rule_choose, defBody s_Rule_choose, defScope s_Rule_choose, []⟩,
  ⟨30, "goes_ahead", "Fewest.goes_ahead", defArgs s_Fewest_goes_ahead, defBody s_Fewest_goes_ahead, defScope s_Fewest_goes_ahead, []⟩,
  ⟨31, "goes_ahead", "Eldest.goes_ahead", defArgs s_Eldest_goes_ahead, defBody s_Eldest_goes_ahead, defScope s_Eldest_goes_ahead, []⟩,
  ⟨32, "goes_ahead", "Worth.goes_ahead", defArgs s_Worth_goes_ahead, defBody s_Worth_goes_ahead, defScope s_Worth_goes_ahead, []⟩,
  ⟨33, "__init__", "Weighed.__init__", defArgs s_Weighed_init, defBody s_Weighed_init, defScope s_Weighed_init, []⟩,
  ⟨34, "goes_ahead", "Weighed.goes_ahead", defArgs s_Weighed_goes_ahead, defBody s_Weighed_goes_ahead, defScope s_Weighed_goes_ahead, []⟩,
  ⟨35, "__init__", "Turned.__init__", defArgs s_Turned_init, defBody s_Turned_init, defScope s_Turned_init, []⟩,
  ⟨36, "goes_ahead", "Turned.goes_ahead", defArgs s_Turned_goes_ahead, defBody s_Turned_goes_ahead, defScope s_Turned_goes_ahead, []⟩,
  ⟨37, "__init__", "Order.__init__", defArgs s_Order_init, defBody s_Order_init, defScope s_Order_init, []⟩,
  ⟨38, "goes_ahead", "Order.goes_ahead", defArgs s_Order_goes_ahead, defBody s_Order_goes_ahead, defScope s_Order_goes_ahead, []⟩,
  ⟨39, "__init__", "Window.__init__", defArgs s_Window_init, defBody s_Window_init, defScope s_Window_init, []⟩,
  ⟨40, "choose", "Window.choose", defArgs s_Window_choose, defBody s_Window_choose, defScope s_Window_choose, []⟩,
  ⟨41, "__init__", "Follow.__init__", defArgs s_Follow_init, defBody s_Follow_init, defScope s_Follow_init, []⟩,
  ⟨42, "choose", "Follow.choose", defArgs s_Follow_choose, defBody s_Follow_choose, defScope s_Follow_choose, []⟩,
  ⟨43, "_law_cell_at", "_law_cell_at", defArgs s__law_cell_at, defBody s__law_cell_at, defScope s__law_cell_at, []⟩,
  ⟨44, "_law_whole", "_law_whole", defArgs s__law_whole, defBody s__law_whole, defScope s__law_whole, []⟩,
  ⟨45, "_law_now", "_law_now", defArgs s__law_now, defBody s__law_now, defScope s__law_now, []⟩]
def fnK1 : List DefK := [⟨46, "_law_tallies", "_law_tallies", defArgs s__law_tallies, defBody s__law_tallies, defScope s__law_tallies, []⟩,
  ⟨47, "_law_first", "_law_first", defArgs s__law_first, defBody s__law_first, defScope s__law_first, []⟩,
  ⟨48, "_law_base", "_law_base", defArgs s__law_base, defBody s__law_base, defScope s__law_base, []⟩,
  ⟨49, "_law_made", "_law_made", defArgs s__law_made, defBody s__law_made, defScope s__law_made, []⟩,
  ⟨50, "_law_rank", "_law_rank", defArgs s__law_rank, defBody s__law_rank, defScope s__law_rank, []⟩,
  ⟨51, "_law_cells", "_law_cells", defArgs s__law_cells, defBody s__law_cells, defScope s__law_cells, []⟩,
  ⟨52, "_law_turned_good", "_law_turned_good", defArgs s__law_turned_good, defBody s__law_turned_good, defScope s__law_turned_good, []⟩,
  ⟨53, "_law_refused", "_law_refused", defArgs s__law_refused, defBody s__law_refused, defScope s__law_refused, []⟩,
  ⟨54, "law", "law", defArgs s_law, defBody s_law, defScope s_law, []⟩]
def fnK : List DefK := fnK0 ++ (fnK1)
def nmK0 : List PySem.Str := ["WornError", "NoRule", "NoRace", "is_whole", "is_within", "Rule", "Fewest", "Eldest", "Worth", "Weighed", "Turned", "Order", "Window", "Follow", "_law_cell_at", "_law_whole", "_law_now", "_law_tallies", "_law_first", "_law_base", "_law_made", "_law_rank", "_law_cells", "_law_turned_good", "_law_refused"]
def nmK : List PySem.Str := nmK0
abbrev RK : PySem.W.OpenRow := PySem.W.OpenLaw.row PySem.Challenge.rw_wornpages_k26_order
abbrev qK : Program := PySem.W.view RK.prog [29]
def lsK0 (g : Addr → Option Obj) : List Addr := [mainGlobals, cStatics, gK g "Rule", gK g "Fewest", gK g "Eldest", gK g "Worth", gK g "Weighed", gK g "Turned", gK g "Order", gK g "Window", gK g "Follow", gK g "WornError", gK g "NoRule", gK g "NoRace", nsK g (gK g "Rule"), nsK g (gK g "Fewest"), nsK g (gK g "Eldest"), nsK g (gK g "Worth"), nsK g (gK g "Weighed"), nsK g (gK g "Turned")]
def lsK1 (g : Addr → Option Obj) : List Addr := [nsK g (gK g "Order"), nsK g (gK g "Window"), nsK g (gK g "Follow"), nsK g (gK g "WornError"), nsK g (gK g "NoRule"), nsK g (gK g "NoRace"), gK g "is_whole", gK g "is_within", mK g "Rule" "goes_ahead", mK g "Rule" "choose", mK g "Fewest" "goes_ahead", mK g "Eldest" "goes_ahead", mK g "Worth" "goes_ahead", mK g "Weighed" "__init__", mK g "Weighed" "goes_ahead", mK g "Turned" "__init__", mK g "Turned" "goes_ahead", mK g "Order" "__init__", mK g "Order" "goes_ahead", mK g "Window" "__init__"]
def lsK2 (g : Addr → Option Obj) : List Addr := [mK g "Window" "choose", mK g "Follow" "__init__", mK g "Follow" "choose", gK g "_law_cell_at", gK g "_law_whole", gK g "_law_now", gK g "_law_tallies", gK g "_law_first", gK g "_law_base", gK g "_law_made", gK g "_law_rank", gK g "_law_cells", gK g "_law_turned_good", gK g "_law_refused", gK g "law", cdK g (gK g "is_whole"), cdK g (gK g "is_within"), cdK g (mK g "Rule" "goes_ahead"), cdK g (mK g "Rule" "choose"), cdK g (mK g "Fewest" "goes_ahead")]
def lsK3 (g : Addr → Option Obj) : List Addr := [cdK g (mK g "Eldest" "goes_ahead"), cdK g (mK g "Worth" "goes_ahead"), cdK g (mK g "Weighed" "__init__"), cdK g (mK g "Weighed" "goes_ahead"), cdK g (mK g "Turned" "__init__"), cdK g (mK g "Turned" "goes_ahead"), cdK g (mK g "Order" "__init__"), cdK g (mK g "Order" "goes_ahead"), cdK g (mK g "Window" "__init__"), cdK g (mK g "Window" "choose"), cdK g (mK g "Follow" "__init__"), cdK g (mK g "Follow" "choose"), cdK g (gK g "_law_cell_at"), cdK g (gK g "_law_whole"), cdK g (gK g "_law_now"), cdK g (gK g "_law_tallies"), cdK g (gK g "_law_first"), cdK g (gK g "_law_base"), cdK g (gK g "_law_made"), cdK g (gK g "_law_rank")]
def lsK4 (g : Addr → Option Obj) : List Addr := [cdK g (gK g "_law_cells"), cdK g (gK g "_law_turned_good"), cdK g (gK g "_law_refused"), cdK g (gK g "law")]
def lsK (g : Addr → Option Obj) : List Addr := lsK0 g ++ (lsK1 g ++ (lsK2 g ++ (lsK3 g ++ (lsK4 g))))
def csK : List (Nat × Nat) := [(77, 0)]
def ls2K (g : Addr → Option Obj) : List Addr := [tbK g (cdK g (gK g "_law_base"))]
abbrev hkK : PySem.W.Hook := hookKT lsK ls2K fsK fnK csK
def obK (s : PySem.W.SharedT) : FnWK × Bool := obsKT lsK ls2K fsK fnK csK (HandSHeadRun.getT s)
theorem obK_eq (s : PySem.W.SharedT) : obK s = hkK.obs s.abs := obsKT_eq (HandSHeadRun.getT_eq s)
theorem runK (w : World) : HandSHeadRun.RunEq RK qK hkK obK 20000 nmK w := by
  intro os
  kernel_rfl
def spLawE (K : PySem.W.Frag) (cs : List (Addr × Addr)) : Sp := fun vs H Q _ => ∃ (a : Addr) (ns : List Int), vs = [.ref a] ∧ SqL K H a (ns.map V.int) ∧ ns.length ≤ 63 ∧ (∀ p ∈ cs, H p.2 = some (.tbl #[])) ∧ ∀ H', Q (.bl true) H'
def FinT : Prop := ∀ {w : World} {K : PySem.W.Frag} {h : Heap} {mg : Str → Option Value} {fa : Addr} {A : List Addr} {A2 : List Addr} (X : K.In h) (G : h.Ns mainGlobals mg) (hfa : mg "law" = some (.ref fa)) (c : SaysK fsK fnK K A),
    ∃ fd : FuncData, (∀ (s : Shared) (v : Value), BindsTo s fd ⟨[v], []⟩ [("_law_script", v)]) ∧ ∀ base : Heap, K.In base → base.Ns mainGlobals mg → (∀ p ∈ csOf csK A A2, TabB base mg p.1 p.2) → FnOk (PySem.Challenge.rw_wornpages_k26_order).prog w K mg base (L2.CX (PySem.Challenge.rw_wornpages_k26_order).prog w) 20 fa fd ["_law_script"] (spLawE K (csOf csK A A2))
end My
section
open PySem PySem.W PySem.Calls PyProof.Rows
theorem My.finE (hFin : My.FinT) : PySem.Challenge.rw_wornpages_k26_order.Holds := by
  w_on; o_law
  refine HandSHeadRun.head_any (r := My.RK) (q := My.qK) (H := My.hkK) (ob := My.obK) (M := 20000) (loose := My.nmK) (d := HandSHeadRun.topDef My.RK.prog 29) (kwd := []) My.obK_eq
    (by kernel_rfl) (fun s => by kernel_rfl) My.runK (by kernel_rfl) (by kernel_rfl) (by kernel_rfl) (by rfl) (by first | assumption | decide +kernel) (by decide +kernel) ⟨rfl, rfl, rfl, rfl, rfl, by decide +kernel⟩ ?hw ?hc
  case hw => w_witness2
  case hc =>
    refine Kit.walk_ofWT (l := PySem.Challenge.rw_wornpages_k26_order) (n := 63) (k := 20) (x := "_law_script") (CX := fun w => L2.CX (PySem.Challenge.rw_wornpages_k26_order).prog w) rfl (by decide) (by kernel_rfl) ⟨rfl, by decide, by decide⟩ ?F ?X
    case X =>
      intro w H s e s' z
      obtain ⟨_, _, _, _, _, _, _, _, _, _, _, _, z⟩ := z
      exact z.elim
    intro w mg fa h Y G hmg0
    obtain ⟨K, K2, A, A2, KX, KX2, c, ct⟩ := Y
    have hmg : mg ("law" : PySem.Str) = some (.ref fa) := by
      have e : (HandSHeadRun.topDef My.RK.prog 29).name = ("law" : PySem.Str) := by kernel_rfl
      rw [← e]
      exact hmg0
    obtain ⟨fd, hb, hF⟩ := hFin (w := w) (A2 := A2) KX G hmg c
    refine ⟨K, K2, fd, Kit.csOf My.csK A A2, My.spLawE K (Kit.csOf My.csK A A2), KX, KX2, fun p hp => ?_, hb, fun H a ns hl hT hS => ⟨a, ns, rfl, hS, hl, hT, fun _ => rfl⟩, hF⟩
    obtain ⟨n, hn, rfl⟩ := List.mem_map.mp hp
    exact List.all_eq_true.mp ct n hn
end
namespace My
open PySem L2 Kit LamX
/-! steps of a reading: "s" one step, "go" as far as it goes -/
local macro_rules | `(tactic| walk_at "sq") => `(tactic| first | assumption | exact SqL.of (by assumption) | exact SqT.of (by assumption) | (refine' Same.seq ?hsm ?hsq; (case hsm => assumption); (case hsq => walk_at "sq")) | (refine' SqL.of ?hhq; (case hhq => walk_at "hp")) | (refine SqT.of ?_; walk_at "hp"))
local macro_rules | `(tactic| walk_at "hp") => `(tactic| first | assumption | (refine' (show Same _ _ by assumption) _ _ ?hhp; (case hhp => walk_at "hp")))
local macro_rules | `(tactic| walk_at "nin") => `(tactic| first | exact nin_of (by assumption) | exact nin_of (Ne.symm (by assumption)))
local macro_rules | `(tactic| walk_at "off") => `(tactic| first | exact Off.refl | exact Off.of (by assumption) | exact Off.sub (by assumption) (by intro b hb; rw [List.mem_singleton] at hb; subst hb; simp) | (refine Off.trans ?_ (Off.of (by assumption)); walk_at "off") | (refine Off.trans ?_ (Off.sub (by assumption) (by intro b hb; rw [List.mem_singleton] at hb; subst hb; simp)); walk_at "off") | (refine Off.trans ?_ (by assumption); walk_at "off"))
local macro_rules | `(tactic| walk_at "hp") => `(tactic| first | assumption | (refine' Off.at ?hO1 ?hO3 ?hO2; (case hO1 => assumption); (case hO2 => walk_at "nin"); (case hO3 => walk_at "hp")) | (refine' Off.lst ?hO1 ?hO2 ?hO3; (case hO1 => assumption); (case hO2 => assumption); (case hO3 => walk_at "hp")) | (refine' (show Same _ _ by assumption) _ _ ?hhp; (case hhp => walk_at "hp")))
local macro_rules | `(tactic| walk_at "nn") => `(tactic| (refine' ne_of_none ?nna ?nnb; (case nnb => assumption); (case nna => walk_at "hp")))
local macro_rules | `(tactic| walk_at "side") => `(tactic| first | assumption | decide | omega | exact ⟨by decide, by decide, by decide⟩ | exact ⟨by decide, by decide +kernel⟩ | exact Or.inr ⟨by decide, by decide⟩ | exact ⟨by omega, by omega⟩ | exact Or.inl ⟨by omega, by omega⟩ | exact Or.inr ⟨by omega, by omega⟩ | exact cdivW (by omega) (by omega) | (simp only [List.length_cons, List.length_nil, List.length_append, Nat.zero_add, Nat.reduceAdd, Nat.reduceMul]; decide) | (simp only [List.length_append, List.length_cons, List.length_nil, List.length_map]; omega) | (simp; done))
local macro_rules | `(tactic| walk_at "isi") => `(tactic| first
  | with_reducible refine x_isiNon_int ?_
  | with_reducible refine x_isiNon_bool ?_
  | with_reducible refine x_isiNon_str ?_
  | with_reducible refine x_isiNon_list ?_
  | with_reducible refine x_isiNon_tuple ?_
  | with_reducible refine x_isiNon_dict ?_
  | with_reducible refine x_isiBl_int ?_
  | with_reducible refine x_isiBl_bool ?_
  | with_reducible refine x_isiBl_str ?_
  | with_reducible refine x_isiBl_list ?_
  | with_reducible refine x_isiBl_tuple ?_
  | with_reducible refine x_isiBl_dict ?_
  | with_reducible refine x_isiInt_int ?_
  | with_reducible refine x_isiInt_bool ?_
  | with_reducible refine x_isiInt_str ?_
  | with_reducible refine x_isiInt_list ?_
  | with_reducible refine x_isiInt_tuple ?_
  | with_reducible refine x_isiInt_dict ?_
  | with_reducible refine x_isiStr_int ?_
  | with_reducible refine x_isiStr_bool ?_
  | with_reducible refine x_isiStr_str ?_
  | with_reducible refine x_isiStr_list ?_
  | with_reducible refine x_isiStr_tuple ?_
  | with_reducible refine x_isiStr_dict ?_
  | with_reducible refine x_isiLst_int (by assumption) ?_
  | with_reducible refine x_isiLst_bool (by assumption) ?_
  | with_reducible refine x_isiLst_str (by assumption) ?_
  | with_reducible refine x_isiLst_list (by assumption) ?_
  | with_reducible refine x_isiLst_tuple (by assumption) ?_
  | with_reducible refine x_isiLst_dict (by assumption) ?_
  | with_reducible refine x_isiTup_int (by assumption) ?_
  | with_reducible refine x_isiTup_bool (by assumption) ?_
  | with_reducible refine x_isiTup_str (by assumption) ?_
  | with_reducible refine x_isiTup_list (by assumption) ?_
  | with_reducible refine x_isiTup_tuple (by assumption) ?_
  | with_reducible refine x_isiTup_dict (by assumption) ?_
  | with_reducible refine x_isiDk_int (by assumption) ?_
  | with_reducible refine x_isiDk_bool (by assumption) ?_
  | with_reducible refine x_isiDk_str (by assumption) ?_
  | with_reducible refine x_isiDk_list (by assumption) ?_
  | with_reducible refine x_isiDk_tuple (by assumption) ?_
  | with_reducible refine x_isiDk_dict (by assumption) ?_)
local macro_rules | `(tactic| walk_at "s") => `(tactic| first
  | walk_at "u"
  | with_reducible refine x_seqA ?_
  | with_reducible refine x_seqD ?_
  | with_reducible refine x_seqF ?_
  | with_reducible refine x_seqFA ?_
  | with_reducible refine x_seqAug ?_
  | with_reducible refine x_asg ?_
  | ((with_reducible refine' x_var ?hv ?_); case hv => exact rfl)
  | with_reducible refine x_c ?_
  | with_reducible refine x_op ?_
  | with_reducible refine x_cb ?_
  | with_reducible refine x_cons ?_
  | with_reducible refine x_nil ?_
  | ((with_reducible refine x_gname ?_); (try dsimp only [List.set]))
  | with_reducible refine x_if ?_
  | with_reducible refine x_ret ?_
  | with_reducible refine x_test ?_
  | ((with_reducible refine x_isbl ?_); try dsimp only)
  | ((with_reducible refine x_truBl ?_); try dsimp only)
  | with_reducible refine x_callS ?_
  | with_reducible refine x_iteT ?_
  | with_reducible refine x_iteF ?_
  | with_reducible refine x_iteN ?_
  | with_reducible refine x_I0 ?_
  | with_reducible refine x_addI ?_
  | with_reducible refine x_lt ?_
  | ((with_reducible refine x_pow ?_ ?hs); (try (case hs => walk_at "side")); (try simp only [Int.reduceToNat]))
  | ((with_reducible refine x_I ?_ ?hs); (try (case hs => walk_at "side")))
  | ((with_reducible refine x_mulI ?_ ?hs); (case hs => walk_at "side"))
  | ((with_reducible refine x_mulU ?_ ?hs); (try (case hs => walk_at "side")))
  | with_reducible refine x_eqI ?_
  | with_reducible refine x_neI ?_
  | with_reducible refine x_eqB ?_
  | with_reducible refine x_neB ?_
  | with_reducible refine x_eqS ?_
  | with_reducible refine x_andT ?_
  | with_reducible refine x_orT ?_
  | with_reducible refine x_notT ?_
  | with_reducible refine x_and ?_
  | with_reducible refine x_or ?_
  | with_reducible refine x_not ?_
  | with_reducible refine x_chain ?_
  | with_reducible refine x_tB ?_
  | with_reducible refine x_tup ?_
  | with_reducible refine x_lst ?_
  | with_reducible refine x_un ?_
  | ((with_reducible refine x_nwL ?_ ?hs); (try (case hs => walk_at "side")); intro p H1 hp hs hn)
  | ((with_reducible refine x_nwT ?_ ?hs); (try (case hs => walk_at "side")); intro p H1 hp hs hn)
  | ((with_reducible refine' x_addL ?h1 ?h2 ?_ ?hs); (case h1 => walk_at "hp"); (case h2 => walk_at "hp"); (try (case hs => walk_at "side")); intro p H1 hp hs hn)
  | ((with_reducible refine' x_rep1 ?h1 ?_ ?h0); (case h1 => walk_at "hp"); (try (case h0 => walk_at "side")); intro p H1 hp hs hn)
  | ((with_reducible refine' x_rep ?h1 ?_ ?h2 ?h0 ?hs); (case h1 => walk_at "hp"); (try (case h2 => walk_at "side")); (try (case h0 => walk_at "side")); (try (case hs => walk_at "side")); intro p H1 hp hs hn)
  | ((with_reducible refine' x_addS ?_ ?hs); (try (case hs => walk_at "side")))
  | with_reducible refine x_U ?_
  | with_reducible refine x_drop ?_
  | with_reducible refine x_retN ?_
  | ((with_reducible refine x_next ?_); try dsimp only)
  | with_reducible refine x_ifExp ?_
  | ((with_reducible refine' x_lenM ?hq ?_); case hq => walk_at "sq")
  | ((with_reducible refine' x_lenL ?hq ?_); case hq => walk_at "sq")
  | ((with_reducible refine' x_lenD ?hq ?_); case hq => walk_at "hp")
  | ((with_reducible refine' x_lenT ?hq ?_); case hq => walk_at "sq")
  | ((with_reducible refine' x_ixH ?hq ?_); (case hq => walk_at "sq"))
  | ((with_reducible refine' x_ixS ?hq ?ha ?_); (case hq => walk_at "sq"); (case ha => first | assumption | exact rfl))
  | ((with_reducible refine' x_ixI ?hq ?_ ?h0 ?h1); (case hq => walk_at "sq"); (try (case h0 => walk_at "side")); (try (case h1 => walk_at "side")))
  | ((with_reducible refine' x_ixB ?hq ?_ ?h0 ?h1); (case hq => walk_at "sq"); (try (case h0 => walk_at "side")); (try (case h1 => walk_at "side")))
  | ((with_reducible refine' x_ixL ?hq ?_ ?h0 ?h1); (case hq => walk_at "sq"); (try (case h0 => walk_at "side")); (try (case h1 => walk_at "side")))
  | ((with_reducible refine' x_ixT ?hq ?ha ?_); (case hq => walk_at "sq"); case ha => exact rfl)
  | walk_at "isi"
  | with_reducible refine x_bm ?_
  | ((with_reducible refine' x_bmL ?hq ?_); (case hq => walk_at "sq"))
  | with_reducible refine x_bm0 ?_
  | ((with_reducible refine' x_bm0L ?hq ?_); (case hq => walk_at "sq"))
  | ((with_reducible refine' x_append ?ho ?_ ?hl); (case ho => walk_at "hp"); (try (case hl => walk_at "side")))
  | ((with_reducible refine' x_clear ?ho ?_); (case ho => walk_at "hp"))
  | with_reducible refine x_slice ?_
  | with_reducible refine x_noPart ?_
  | with_reducible refine x_part ?_
  | with_reducible refine x_ptK ?_
  | ((with_reducible refine' x_slL ?hq ?_); (case hq => walk_at "sq"); intro p H1 hp hs hn)
  | with_reducible refine x_forL ?_
  | with_reducible refine x_forT ?_
  | with_reducible refine x_forS ?_
  | with_reducible refine x_forR1 ?_
  | with_reducible refine x_forR2 ?_
  | with_reducible refine x_forEn ?_
  | with_reducible refine x_forZ ?_
  | with_reducible refine x_lcL ?_
  | with_reducible refine x_lcR1 ?_
  | with_reducible refine x_lcR2 ?_
  | with_reducible refine x_yes ?_
  | ((with_reducible refine x_mk0 ?_); intro p dp H1 hp hdp hne hs hn hd)
  | with_reducible refine x_mkS ?_
  | ((with_reducible refine x_mkK ?_); intro p dp H1 hp hdp hne hs hn hd)
  | with_reducible refine x_methD ?_
  | with_reducible refine x_fldAug ?_
  | with_reducible refine x_dget ?_
  | ((with_reducible refine' x_dgS ?ho ?hv ?_); (case ho => walk_at "hp"); (case hv => exact rfl); (try dsimp only))
  | with_reducible refine x_dput ?_
  | with_reducible refine x_seqDP ?_
  | with_reducible refine x_prN ?_
  | with_reducible refine x_prC ?_
  | ((with_reducible refine x_disp ?_); intro p H1 hp hs hn)
  | ((with_reducible refine x_dnew ?_); intro p H1 hp hs hn)
  | with_reducible refine x_din ?_
  | with_reducible refine x_dnin ?_
  | ((with_reducible refine' x_dninI ?ho ?_); (case ho => walk_at "hp"))
  | with_reducible refine x_dget1 ?_
  | with_reducible refine x_dsetd ?_
  | with_reducible refine x_dpop1 ?_
  | with_reducible refine x_dpop2 ?_
  | ((with_reducible refine' x_dinI ?ho ?_); (case ho => walk_at "hp"))
  | ((with_reducible refine' x_dg1K ?ho ?_); (case ho => walk_at "hp"))
  | ((with_reducible refine' x_dg1I ?ho ?_); (case ho => walk_at "hp"))
  | ((with_reducible refine' x_dsK ?ho ?_); (case ho => walk_at "hp"))
  | ((with_reducible refine' x_dpp1K ?ho ?_); (case ho => walk_at "hp"))
  | ((with_reducible refine' x_dpp2K ?ho ?_); (case ho => walk_at "hp"))
  | with_reducible refine x_augS ?_
  | with_reducible refine x_seqAS ?_
  | with_reducible refine x_rSub ?_
  | ((with_reducible refine' x_getI ?hq ?_ ?h0 ?h1); (case hq => walk_at "sq"); (try (case h0 => walk_at "side")); (try (case h1 => walk_at "side")))
  | ((with_reducible refine' x_getL ?hq ?_ ?h0 ?h1); (case hq => walk_at "sq"); (try (case h0 => walk_at "side")); (try (case h1 => walk_at "side")))
  | with_reducible refine x_gsub ?_
  | ((with_reducible refine' x_setL ?ho ?_ ?h0 ?h1); (case ho => walk_at "hp"); (try (case h0 => walk_at "side")); (try (case h1 => walk_at "side")); intro H1 hO hI; (try dsimp only))
  | ((with_reducible refine' x_sfN ?ho ?hf ?_ ?hc ?hn ?hl); (case ho => walk_at "hp"); (case hf => exact rfl); (case hc => walk_at "cls"); (case hn => walk_at "na"); (case hl => exact Nat.le_of_ble_eq_true rfl); intro H1 hO hI; (dsimp only [List.cons_append, List.nil_append] at hI); (try dsimp only))
  | ((with_reducible refine' x_fldK ?ho ?hf ?_ ?hc ?hn); (case ho => walk_at "hp"); (case hf => exact rfl); (case hc => walk_at "cls"); (case hn => walk_at "na"))
  | ((with_reducible refine' x_aug ?hv ?_); case hv => exact rfl)
  | ((with_reducible refine x_ipI ?_); (try dsimp only [List.set]))
  | with_reducible refine x_rAdd ?_
  | with_reducible refine x_isB ?_
  | with_reducible refine x_isNotB ?_
  | with_reducible refine x_isN ?_
  | with_reducible refine x_isNotN ?_
  | ((with_reducible refine' x_inI ?hq ?_); (case hq => walk_at "sq"))
  | ((with_reducible refine' x_notInI ?hq ?_); (case hq => walk_at "sq"))
  | ((with_reducible refine x_intB ?_); try dsimp only)
  | with_reducible refine x_intI ?_
  | with_reducible refine x_raise ?_
  | with_reducible refine x_seqR ?_
  | with_reducible refine x_mkE ?_
  | with_reducible refine x_try1 ?_
  | with_reducible refine x_seqT1 ?_
  | with_reducible refine x_tryA ?_
  | with_reducible refine x_seqTA ?_
  | with_reducible refine x_tryK ?_
  | with_reducible refine x_seqTK ?_
  | with_reducible refine x_tryM ?_
  | with_reducible refine x_seqTM ?_
  | with_reducible refine x_mix ?_
  | with_reducible refine x_seqMix ?_
  | with_reducible refine x_xf ?_
  | with_reducible refine x_mkO ?_
  | with_reducible refine x_vei ?_
  | with_reducible refine x_fld ?_
  | with_reducible refine x_sfld ?_
  | ((with_reducible refine' x_gtup2 ?hq ?_); (case hq => walk_at "sq"); (try dsimp only [List.set]))
  | ((with_reducible refine' x_glst4 ?hq ?_); (case hq => walk_at "sq"); (try dsimp only [List.set]))
  | with_reducible refine x_max2 ?_
  | with_reducible refine x_min2 ?_
  | ((with_reducible refine' x_list ?hq ?_); (case hq => walk_at "sq"); intro p H1 hp hs hn)
  | with_reducible refine x_listRev ?_
  | ((with_reducible refine' x_lrK ?hq ?_); (case hq => walk_at "sq"); intro p H1 hp hs hn)
  | ((with_reducible refine' x_tupL ?hq ?_); (case hq => walk_at "sq"); intro p H1 hp hs hn)
  | ((with_reducible refine' x_listD ?hq ?_); (case hq => walk_at "hp"); intro p H1 hp hs hn)
  | ((with_reducible refine x_shl ?_ ?hs); (try (case hs => walk_at "side")))
  | ((with_reducible refine x_str ?_ ?hs); (try (case hs => walk_at "side"))))
local macro_rules | `(tactic| walk_at "go") => `(tactic| repeat walk_at "s")
local macro_rules | `(tactic| walk_at "begin") => `(tactic| simp only [L2H.cxH, cxOf, L2.start, List.map, List.length_cons, List.length_nil, List.replicate, Nat.reduceAdd, Nat.reduceSub, List.cons_append, List.nil_append])
local macro_rules | `(tactic| walk_at "if") => `(tactic| ((with_reducible refine x_seq ?_); repeat walk_at "s"))
local macro_rules | `(tactic| walk_at "exv") => `(tactic| first | assumption | ((refine' ExV.mono ?exa ?exb); (case exa => assumption); (case exb => assumption)) | ((refine' ExV.off1 ?exo ?exx ?exn); (case exo => assumption); (case exx => assumption); (case exn => assumption)))
local macro_rules | `(tactic| walk_at "u") => `(tactic| first | ((with_reducible refine' x_isVC ?exv ?exe ?exk ?_); (case exv => walk_at "exv"); (case exe => assumption); (case exk => assumption)) | ((with_reducible refine' x_isVT ?exv ?exe ?exk ?_); (case exv => walk_at "exv"); (case exe => assumption); (case exk => assumption)))
--#LAWSPEC 20
structure Txt (K : PySem.W.Frag) (mg : Str → Option Value) where
  a_is_whole : Addr
  fd_is_whole : FuncData
  F_is_whole : Fun K "is_whole" "is_whole" s_is_whole a_is_whole fd_is_whole
  bd_is_whole : Binds K fd_is_whole ["thing"] []
  k_is_whole : PySem.W.keepIn K (.ref a_is_whole) = true
  g_is_whole : mg "is_whole" = some (.ref a_is_whole)
  a_is_within : Addr
  fd_is_within : FuncData
  F_is_within : Fun K "is_within" "is_within" s_is_within a_is_within fd_is_within
  bd_is_within : Binds K fd_is_within ["thing", "low", "high"] []
  k_is_within : PySem.W.keepIn K (.ref a_is_within) = true
  g_is_within : mg "is_within" = some (.ref a_is_within)
  a_Rule_goes_ahead : Addr
  fd_Rule_goes_ahead : FuncData
  F_Rule_goes_ahead : Fun K "goes_ahead" "Rule.goes_ahead" s_Rule_goes_ahead a_Rule_goes_ahead fd_Rule_goes_ahead
  bd_Rule_goes_ahead : Binds K fd_Rule_goes_ahead ["self", "one", "other", "pages", "now"] []
  k_Rule_goes_ahead : PySem.W.keepIn K (.ref a_Rule_goes_ahead) = true
  a_Rule_choose : Addr
  fd_Rule_choose : FuncData
  F_Rule_choose : Fun K "choose" "Rule.choose" s_Rule_choose a_Rule_choose fd_Rule_choose
  bd_Rule_choose : Binds K fd_Rule_choose ["self", "tallies", "pages", "now"] []
  k_Rule_choose : PySem.W.keepIn K (.ref a_Rule_choose) = true
  a_Fewest_goes_ahead : Addr
  fd_Fewest_goes_ahead : FuncData
  F_Fewest_goes_ahead : Fun K "goes_ahead" "Fewest.goes_ahead" s_Fewest_goes_ahead a_Fewest_goes_ahead fd_Fewest_goes_ahead
  bd_Fewest_goes_ahead : Binds K fd_Fewest_goes_ahead ["self", "one", "other", "pages", "now"] []
  k_Fewest_goes_ahead : PySem.W.keepIn K (.ref a_Fewest_goes_ahead) = true
  a_Eldest_goes_ahead : Addr
  fd_Eldest_goes_ahead : FuncData
  F_Eldest_goes_ahead : Fun K "goes_ahead" "Eldest.goes_ahead" s_Eldest_goes_ahead a_Eldest_goes_ahead fd_Eldest_goes_ahead
  bd_Eldest_goes_ahead : Binds K fd_Eldest_goes_ahead ["self", "one", "other", "pages", "now"] []
  k_Eldest_goes_ahead : PySem.W.keepIn K (.ref a_Eldest_goes_ahead) = true
  a_Worth_goes_ahead : Addr
  fd_Worth_goes_ahead : FuncData
  F_Worth_goes_ahead : Fun K "goes_ahead" "Worth.goes_ahead" s_Worth_goes_ahead a_Worth_goes_ahead fd_Worth_goes_ahead
  bd_Worth_goes_ahead : Binds K fd_Worth_goes_ahead ["self", "one", "other", "pages", "now"] []
  k_Worth_goes_ahead : PySem.W.keepIn K (.ref a_Worth_goes_ahead) = true
  a_Weighed_init : Addr
  fd_Weighed_init : FuncData
  F_Weighed_init : Fun K "__init__" "Weighed.__init__" s_Weighed_init a_Weighed_init fd_Weighed_init
  bd_Weighed_init : Binds K fd_Weighed_init ["self", "weigh"] []
  k_Weighed_init : PySem.W.keepIn K (.ref a_Weighed_init) = true
  a_Weighed_goes_ahead : Addr
  fd_Weighed_goes_ahead : FuncData
  F_Weighed_goes_ahead : Fun K "goes_ahead" "Weighed.goes_ahead" s_Weighed_goes_ahead a_Weighed_goes_ahead fd_Weighed_goes_ahead
  bd_Weighed_goes_ahead : Binds K fd_Weighed_goes_ahead ["self", "one", "other", "pages", "now"] []
  k_Weighed_goes_ahead : PySem.W.keepIn K (.ref a_Weighed_goes_ahead) = true
  a_Turned_init : Addr
  fd_Turned_init : FuncData
  F_Turned_init : Fun K "__init__" "Turned.__init__" s_Turned_init a_Turned_init fd_Turned_init
  bd_Turned_init : Binds K fd_Turned_init ["self", "rule"] []
  k_Turned_init : PySem.W.keepIn K (.ref a_Turned_init) = true
  a_Turned_goes_ahead : Addr
  fd_Turned_goes_ahead : FuncData
  F_Turned_goes_ahead : Fun K "goes_ahead" "Turned.goes_ahead" s_Turned_goes_ahead a_Turned_goes_ahead fd_Turned_goes_ahead
  bd_Turned_goes_ahead : Binds K fd_Turned_goes_ahead ["self", "one", "other", "pages", "now"] []
  k_Turned_goes_ahead : PySem.W.keepIn K (.ref a_Turned_goes_ahead) = true
  a_Order_init : Addr
  fd_Order_init : FuncData
  F_Order_init : Fun K "__init__" "Order.__init__" s_Order_init a_Order_init fd_Order_init
  bd_Order_init : Binds K fd_Order_init ["self", "rules"] []
  k_Order_init : PySem.W.keepIn K (.ref a_Order_init) = true
  a_Order_goes_ahead : Addr
  fd_Order_goes_ahead : FuncData
  F_Order_goes_ahead : Fun K "goes_ahead" "Order.goes_ahead" s_Order_goes_ahead a_Order_goes_ahead fd_Order_goes_ahead
  bd_Order_goes_ahead : Binds K fd_Order_goes_ahead ["self", "one", "other", "pages", "now"] []
  k_Order_goes_ahead : PySem.W.keepIn K (.ref a_Order_goes_ahead) = true
  a_Window_init : Addr
  fd_Window_init : FuncData
  F_Window_init : Fun K "__init__" "Window.__init__" s_Window_init a_Window_init fd_Window_init
  bd_Window_init : Binds K fd_Window_init ["self", "many"] []
  k_Window_init : PySem.W.keepIn K (.ref a_Window_init) = true
  a_Window_choose : Addr
  fd_Window_choose : FuncData
  F_Window_choose : Fun K "choose" "Window.choose" s_Window_choose a_Window_choose fd_Window_choose
  bd_Window_choose : Binds K fd_Window_choose ["self", "tallies", "pages", "now"] []
  k_Window_choose : PySem.W.keepIn K (.ref a_Window_choose) = true
  a_Follow_init : Addr
  fd_Follow_init : FuncData
  F_Follow_init : Fun K "__init__" "Follow.__init__" s_Follow_init a_Follow_init fd_Follow_init
  bd_Follow_init : Binds K fd_Follow_init ["self", "blocks"] []
  k_Follow_init : PySem.W.keepIn K (.ref a_Follow_init) = true
  a_Follow_choose : Addr
  fd_Follow_choose : FuncData
  F_Follow_choose : Fun K "choose" "Follow.choose" s_Follow_choose a_Follow_choose fd_Follow_choose
  bd_Follow_choose : Binds K fd_Follow_choose ["self", "tallies", "pages", "now"] []
  k_Follow_choose : PySem.W.keepIn K (.ref a_Follow_choose) = true
  a__law_cell_at : Addr
  fd__law_cell_at : FuncData
  F__law_cell_at : Fun K "_law_cell_at" "_law_cell_at" s__law_cell_at a__law_cell_at fd__law_cell_at
  bd__law_cell_at : Binds K fd__law_cell_at ["_law_script", "_law_k"] []
  k__law_cell_at : PySem.W.keepIn K (.ref a__law_cell_at) = true
  g__law_cell_at : mg "_law_cell_at" = some (.ref a__law_cell_at)
  a__law_whole : Addr
  fd__law_whole : FuncData
  F__law_whole : Fun K "_law_whole" "_law_whole" s__law_whole a__law_whole fd__law_whole
  bd__law_whole : Binds K fd__law_whole ["_law_found"] []
  k__law_whole : PySem.W.keepIn K (.ref a__law_whole) = true
  g__law_whole : mg "_law_whole" = some (.ref a__law_whole)
  a__law_now : Addr
  fd__law_now : FuncData
  F__law_now : Fun K "_law_now" "_law_now" s__law_now a__law_now fd__law_now
  bd__law_now : Binds K fd__law_now ["_law_cell"] []
  k__law_now : PySem.W.keepIn K (.ref a__law_now) = true
  g__law_now : mg "_law_now" = some (.ref a__law_now)
  a__law_tallies : Addr
  fd__law_tallies : FuncData
  F__law_tallies : Fun K "_law_tallies" "_law_tallies" s__law_tallies a__law_tallies fd__law_tallies
  bd__law_tallies : Binds K fd__law_tallies ["_law_script", "_law_start", "_law_pages", "_law_now_here"] []
  k__law_tallies : PySem.W.keepIn K (.ref a__law_tallies) = true
  g__law_tallies : mg "_law_tallies" = some (.ref a__law_tallies)
  a__law_first : Addr
  fd__law_first : FuncData
  F__law_first : Fun K "_law_first" "_law_first" s__law_first a__law_first fd__law_first
  bd__law_first : Binds K fd__law_first ["_law_tallies_here", "_law_ranks"] []
  k__law_first : PySem.W.keepIn K (.ref a__law_first) = true
  g__law_first : mg "_law_first" = some (.ref a__law_first)
  a__law_base : Addr
  fd__law_base : FuncData
  F__law_base : Fun K "_law_base" "_law_base" s__law_base a__law_base fd__law_base
  bd__law_base : Binds K fd__law_base ["_law_kind"] []
  k__law_base : PySem.W.keepIn K (.ref a__law_base) = true
  g__law_base : mg "_law_base" = some (.ref a__law_base)
  a__law_made : Addr
  fd__law_made : FuncData
  F__law_made : Fun K "_law_made" "_law_made" s__law_made a__law_made fd__law_made
  bd__law_made : Binds K fd__law_made ["_law_cell"] []
  k__law_made : PySem.W.keepIn K (.ref a__law_made) = true
  g__law_made : mg "_law_made" = some (.ref a__law_made)
  a__law_rank : Addr
  fd__law_rank : FuncData
  F__law_rank : Fun K "_law_rank" "_law_rank" s__law_rank a__law_rank fd__law_rank
  bd__law_rank : Binds K fd__law_rank ["_law_cell", "_law_tally", "_law_pages", "_law_now_here"] []
  k__law_rank : PySem.W.keepIn K (.ref a__law_rank) = true
  g__law_rank : mg "_law_rank" = some (.ref a__law_rank)
  a__law_cells : Addr
  fd__law_cells : FuncData
  F__law_cells : Fun K "_law_cells" "_law_cells" s__law_cells a__law_cells fd__law_cells
  bd__law_cells : Binds K fd__law_cells ["_law_script"] []
  k__law_cells : PySem.W.keepIn K (.ref a__law_cells) = true
  g__law_cells : mg "_law_cells" = some (.ref a__law_cells)
  a__law_turned_good : Addr
  fd__law_turned_good : FuncData
  F__law_turned_good : Fun K "_law_turned_good" "_law_turned_good" s__law_turned_good a__law_turned_good fd__law_turned_good
  bd__law_turned_good : Binds K fd__law_turned_good ["_law_rule", "_law_tallies_here", "_law_ranks", "_law_pages", "_law_now_here"] []
  k__law_turned_good : PySem.W.keepIn K (.ref a__law_turned_good) = true
  g__law_turned_good : mg "_law_turned_good" = some (.ref a__law_turned_good)
  a__law_refused : Addr
  fd__law_refused : FuncData
  F__law_refused : Fun K "_law_refused" "_law_refused" s__law_refused a__law_refused fd__law_refused
  bd__law_refused : Binds K fd__law_refused ["_law_many"] []
  k__law_refused : PySem.W.keepIn K (.ref a__law_refused) = true
  g__law_refused : mg "_law_refused" = some (.ref a__law_refused)
  a_law : Addr
  fd_law : FuncData
  F_law : Fun K "law" "law" s_law a_law fd_law
  bd_law : Binds K fd_law ["_law_script"] []
  k_law : PySem.W.keepIn K (.ref a_law) = true
  lc__law_base : Addr
  lt__law_base : Addr
  lcd__law_base : fd__law_base.code = .ref lc__law_base
  C_Rule : Addr
  g_Rule : mg "Rule" = some (.ref C_Rule)
  cl_Rule : Cls K C_Rule
  mk0_Rule : Mk0 K C_Rule
  m_Rule_goes_ahead : Meth K C_Rule "goes_ahead" a_Rule_goes_ahead
  m_Rule_choose : Meth K C_Rule "choose" a_Rule_choose
  C_Fewest : Addr
  g_Fewest : mg "Fewest" = some (.ref C_Fewest)
  cl_Fewest : Cls K C_Fewest
  mk0_Fewest : Mk0 K C_Fewest
  m_Fewest_goes_ahead : Meth K C_Fewest "goes_ahead" a_Fewest_goes_ahead
  m_Fewest_choose : Meth K C_Fewest "choose" a_Rule_choose
  C_Eldest : Addr
  g_Eldest : mg "Eldest" = some (.ref C_Eldest)
  cl_Eldest : Cls K C_Eldest
  mk0_Eldest : Mk0 K C_Eldest
  m_Eldest_goes_ahead : Meth K C_Eldest "goes_ahead" a_Eldest_goes_ahead
  m_Eldest_choose : Meth K C_Eldest "choose" a_Rule_choose
  C_Worth : Addr
  g_Worth : mg "Worth" = some (.ref C_Worth)
  cl_Worth : Cls K C_Worth
  mk0_Worth : Mk0 K C_Worth
  m_Worth_goes_ahead : Meth K C_Worth "goes_ahead" a_Worth_goes_ahead
  m_Worth_choose : Meth K C_Worth "choose" a_Rule_choose
  C_Weighed : Addr
  g_Weighed : mg "Weighed" = some (.ref C_Weighed)
  cl_Weighed : Cls K C_Weighed
  na_Weighed_weigh : NoAttr K C_Weighed "weigh"
  m_Weighed_goes_ahead : Meth K C_Weighed "goes_ahead" a_Weighed_goes_ahead
  m_Weighed_choose : Meth K C_Weighed "choose" a_Rule_choose
  mk_Weighed : Mk K C_Weighed a_Weighed_init
  C_Turned : Addr
  g_Turned : mg "Turned" = some (.ref C_Turned)
  cl_Turned : Cls K C_Turned
  na_Turned_rule : NoAttr K C_Turned "rule"
  m_Turned_goes_ahead : Meth K C_Turned "goes_ahead" a_Turned_goes_ahead
  m_Turned_choose : Meth K C_Turned "choose" a_Rule_choose
  mk_Turned : Mk K C_Turned a_Turned_init
  C_Order : Addr
  g_Order : mg "Order" = some (.ref C_Order)
  cl_Order : Cls K C_Order
  na_Order_rules : NoAttr K C_Order "rules"
  m_Order_goes_ahead : Meth K C_Order "goes_ahead" a_Order_goes_ahead
  m_Order_choose : Meth K C_Order "choose" a_Rule_choose
  mk_Order : Mk K C_Order a_Order_init
  C_Window : Addr
  g_Window : mg "Window" = some (.ref C_Window)
  cl_Window : Cls K C_Window
  na_Window_many : NoAttr K C_Window "many"
  m_Window_goes_ahead : Meth K C_Window "goes_ahead" a_Fewest_goes_ahead
  m_Window_choose : Meth K C_Window "choose" a_Window_choose
  mk_Window : Mk K C_Window a_Window_init
  C_Follow : Addr
  g_Follow : mg "Follow" = some (.ref C_Follow)
  cl_Follow : Cls K C_Follow
  na_Follow_blocks : NoAttr K C_Follow "blocks"
  na_Follow_asked : NoAttr K C_Follow "asked"
  m_Follow_goes_ahead : Meth K C_Follow "goes_ahead" a_Rule_goes_ahead
  m_Follow_choose : Meth K C_Follow "choose" a_Follow_choose
  mk_Follow : Mk K C_Follow a_Follow_init
  C_WornError : Addr
  g_WornError : mg "WornError" = some (.ref C_WornError)
  xc_WornError : XC K C_WornError
  C_NoRule : Addr
  g_NoRule : mg "NoRule" = some (.ref C_NoRule)
  xc_NoRule : XC K C_NoRule
  C_NoRace : Addr
  g_NoRace : mg "NoRace" = some (.ref C_NoRace)
  xc_NoRace : XC K C_NoRace
  em_NoRule_WornError : PySem.W.exmOne K (.ref C_NoRule) (.ref C_WornError) = some true
  ec_NoRule : ExcC K C_NoRule
  ki_NoRule_ValueError : PySem.W.kitOne K (.ref C_NoRule) (.type "ValueError") = some true
  kc_NoRule_NoRule : PySem.W.kitOne K (.ref C_NoRule) (.ref C_NoRule) = some true
  kc_NoRule_NoRace : PySem.W.kitOne K (.ref C_NoRule) (.ref C_NoRace) = some false
  b_len : mg "len" = none
  b_isinstance : mg "isinstance" = none
  b_min : mg "min" = none
  b_max : mg "max" = none
  b_sorted : mg "sorted" = none
  b_int : mg "int" = none
  b_list : mg "list" = none
  b_bool : mg "bool" = none
  b_range : mg "range" = none
  b_zip : mg "zip" = none
  b_ValueError : mg "ValueError" = none
local macro_rules | `(tactic| walk_at "cls") => `(tactic| first | assumption | exact (show Txt _ _ by assumption).cl_Rule | exact (show Txt _ _ by assumption).cl_Fewest | exact (show Txt _ _ by assumption).cl_Eldest | exact (show Txt _ _ by assumption).cl_Worth | exact (show Txt _ _ by assumption).cl_Weighed | exact (show Txt _ _ by assumption).cl_Turned | exact (show Txt _ _ by assumption).cl_Order | exact (show Txt _ _ by assumption).cl_Window | exact (show Txt _ _ by assumption).cl_Follow)
local macro_rules | `(tactic| walk_at "na") => `(tactic| first | assumption | exact (show Txt _ _ by assumption).na_Weighed_weigh | exact (show Txt _ _ by assumption).na_Turned_rule | exact (show Txt _ _ by assumption).na_Order_rules | exact (show Txt _ _ by assumption).na_Window_many | exact (show Txt _ _ by assumption).na_Follow_blocks | exact (show Txt _ _ by assumption).na_Follow_asked)
section
variable {P : Program} {w : World} {K : PySem.W.Frag} {mg : Str → Option Value} {base : Heap}
abbrev FO (P : Program) (w : World) (K : PySem.W.Frag) (mg : Str → Option Value) (base : Heap) := FnOk P w K mg base (L2.CX P w)
/-! ### the law's reader -/
def cl (ns : List Int) (k : Int) : Int := ns.getD k.toNat 0
def spCell (K : PySem.W.Frag) : Sp := fun vs H Q _ => ∃ (a : Addr) (ns : List Int) (k : Int), vs = [.ref a, .int k] ∧ SqL K H a (ns.map V.int) ∧ 0 ≤ k ∧ Q (.int (cl ns k)) H
theorem ok_cell_at (T : Txt K mg) : FO P w K mg base 1 T.a__law_cell_at T.fd__law_cell_at ["_law_script", "_law_k"] (spCell K) := by
  have sc := sc__law_cell_at
  refine T.F__law_cell_at.okX sc (fun vs H Q E h => ?_) (fun cdv A outer s H vs Q E hr h => ?_)
  · obtain ⟨a, ns, k, rfl, _⟩ := h
    rfl
  · obtain ⟨a, ns, k, rfl, hS, h0, q⟩ := h
    refine ⟨_, (pss_cons (ps_if (pt_cmpR op_uLt (pv 1) (pe_callB (cr_ulen) (by rfl) T.b_len bt_len (pa_cons (pv 0) pa_nil)) (nomark _)) (pss_one (ps_ret (pe_ix ix_seq (pv 0) (pv 1) (fun _ _ => rfl)))) pss_nil)
      (pss_one (ps_ret pe_int))), ?_⟩
    walk_at "begin"
    walk_at "if"
    refine x_iteD (fun h => ?_) (fun h => ?_)
    · walk_at "go"
      exact q
    · walk_at "go"
      have e : cl ns k = 0 := by
        unfold cl
        rw [List.getD_eq_getElem?_getD, List.getElem?_eq_none (by omega)]
        rfl
      rw [e] at q
      exact q
theorem x_cell {H : Hp} {Q : VK} {E : XK} {a : Addr} {ns : List Int} {k : Int} (h : SqL K H a (ns.map V.int)) (q : Q (.int (cl ns k)) H) (h0 : 0 ≤ k) : spCell K [.ref a, .int k] H Q E := ⟨a, ns, k, rfl, h, h0, q⟩
local macro_rules | `(tactic| walk_at "u") => `(tactic| ((with_reducible refine' x_cell ?hq ?_ ?h0); (case hq => walk_at "sq"); (try (case h0 => walk_at "side"))))
/-- a value that is no whole number, of a kind that is met here -/
def NotI (K : PySem.W.Frag) (H : Hp) (v : V) : Prop := v = .non ∨ (∃ b, v = .bl b) ∨ (∃ s, v = .str s) ∨ ∃ p, v = .ref p ∧ (TyX K H v (.type "list") ∨ TyX K H v (.type "tuple"))
def spLWhole (K : PySem.W.Frag) : Sp := fun vs H Q _ => ∃ v, vs = [v] ∧ ((∃ n, v = .int n ∧ Q (.bl true) H) ∨ (NotI K H v ∧ Q (.bl false) H))
theorem x_lwhole {H : Hp} {Q : VK} {E : XK} {n : Int} (q : Q (.bl true) H) : spLWhole K [.int n] H Q E := ⟨_, rfl, .inl ⟨n, rfl, q⟩⟩
theorem x_lwholeN {H : Hp} {Q : VK} {E : XK} {v : V} (h : NotI K H v) (q : Q (.bl false) H) : spLWhole K [v] H Q E := ⟨_, rfl, .inr ⟨h, q⟩⟩
local macro_rules | `(tactic| walk_at "u") => `(tactic| first | (with_reducible refine x_lwhole ?_) | (with_reducible refine x_lwholeN (by assumption) ?_))
theorem ok_whole (T : Txt K mg) : FO P w K mg base 1 T.a__law_whole T.fd__law_whole ["_law_found"] (spLWhole K) := by
  have sc := sc__law_whole
  refine T.F__law_whole.okX sc (fun vs H Q E h => ?_) (fun cdv A outer s H vs Q E hr h => ?_)
  · obtain ⟨v, rfl, _⟩ := h
    rfl
  · obtain ⟨v, rfl, h⟩ := h
    refine ⟨_, (pss_one (ps_ret (pe_andT (pe_callB (cr_uisinstance) (by rfl) T.b_isinstance bt_isinstance (pa_cons (pv 0) (pa_cons (pe_bltn (v := .ty "int") (by rfl) T.b_int bt_int rfl) pa_nil))) (pe_one (pe_notT (pe_callB (cr_uisinstance) (by rfl) T.b_isinstance bt_isinstance (pa_cons (pv 0) (pa_cons (pe_bltn (v := .ty "bool") (by rfl) T.b_bool bt_bool rfl) pa_nil)))))))), ?_⟩
    walk_at "begin"
    walk_at "go"
    rcases h with ⟨n, rfl, q⟩ | ⟨h, q⟩
    · walk_at "go"
      exact q
    · rcases h with rfl | ⟨b, rfl⟩ | ⟨z, rfl⟩ | ⟨p, rfl, h⟩
      · walk_at "go"
        exact q
      · walk_at "go"
        exact q
      · walk_at "go"
        exact q
      · rcases h with h | h
        · refine x_isiR h (b := false) (by decide +kernel) ?_
          walk_at "go"
          exact q
        · refine x_isiR h (b := false) (by decide +kernel) ?_
          walk_at "go"
          exact q
/-! ### whole numbers -/
def spWhole (K : PySem.W.Frag) : Sp := fun vs H Q _ => ∃ v, vs = [v] ∧ ((∃ n, v = .int n ∧ Q (.bl true) H) ∨ (NotI K H v ∧ Q (.bl false) H))
theorem x_whole {H : Hp} {Q : VK} {E : XK} {n : Int} (q : Q (.bl true) H) : spWhole K [.int n] H Q E := ⟨_, rfl, .inl ⟨n, rfl, q⟩⟩
theorem x_wholeN {H : Hp} {Q : VK} {E : XK} {v : V} (h : NotI K H v) (q : Q (.bl false) H) : spWhole K [v] H Q E := ⟨_, rfl, .inr ⟨h, q⟩⟩
local macro_rules | `(tactic| walk_at "u") => `(tactic| first | (with_reducible refine x_whole ?_) | (with_reducible refine x_wholeN (by assumption) ?_))
theorem ok_is_whole (T : Txt K mg) : FO P w K mg base 1 T.a_is_whole T.fd_is_whole ["thing"] (spWhole K) := by
  have sc := sc_is_whole
  refine T.F_is_whole.okX sc (fun vs H Q E h => ?_) (fun cdv A outer s H vs Q E hr h => ?_)
  · obtain ⟨v, rfl, _⟩ := h
    rfl
  · obtain ⟨v, rfl, h⟩ := h
    refine ⟨_, (pss_one (ps_ret (pe_andT (pe_callB (cr_uisinstance) (by rfl) T.b_isinstance bt_isinstance (pa_cons (pv 0) (pa_cons (pe_bltn (v := .ty "int") (by rfl) T.b_int bt_int rfl) pa_nil))) (pe_one (pe_notT (pe_callB (cr_uisinstance) (by rfl) T.b_isinstance bt_isinstance (pa_cons (pv 0) (pa_cons (pe_bltn (v := .ty "bool") (by rfl) T.b_bool bt_bool rfl) pa_nil)))))))), ?_⟩
    walk_at "begin"
    walk_at "go"
    rcases h with ⟨n, rfl, q⟩ | ⟨h, q⟩
    · walk_at "go"
      exact q
    · rcases h with rfl | ⟨b, rfl⟩ | ⟨z, rfl⟩ | ⟨p, rfl, h⟩
      · walk_at "go"
        exact q
      · walk_at "go"
        exact q
      · walk_at "go"
        exact q
      · rcases h with h | h
        · refine x_isiR h (b := false) (by decide +kernel) ?_
          walk_at "go"
          exact q
        · refine x_isiR h (b := false) (by decide +kernel) ?_
          walk_at "go"
          exact q
def spWithin (K : PySem.W.Frag) : Sp := fun vs H Q _ => ∃ v lo hi, vs = [v, .int lo, .int hi] ∧ ((∃ n, v = .int n ∧ Q (.bl (decide (lo ≤ n ∧ n ≤ hi))) H) ∨ (NotI K H v ∧ Q (.bl false) H))
theorem x_within {H : Hp} {Q : VK} {E : XK} {n lo hi : Int} (q : Q (.bl (decide (lo ≤ n ∧ n ≤ hi))) H) : spWithin K [.int n, .int lo, .int hi] H Q E := ⟨_, _, _, rfl, .inl ⟨n, rfl, q⟩⟩
theorem x_withinN {H : Hp} {Q : VK} {E : XK} {v : V} {lo hi : Int} (h : NotI K H v) (q : Q (.bl false) H) : spWithin K [v, .int lo, .int hi] H Q E := ⟨_, _, _, rfl, .inr ⟨h, q⟩⟩
local macro_rules | `(tactic| walk_at "u") => `(tactic| first | (with_reducible refine x_within ?_) | (with_reducible refine x_withinN (by assumption) ?_))
theorem ok_is_within (T : Txt K mg) : FO P w K mg base 2 T.a_is_within T.fd_is_within ["thing", "low", "high"] (spWithin K) := by
  have sc := sc_is_within
  refine T.F_is_within.okX sc (fun vs H Q E h => ?_) (fun cdv A outer s H vs Q E hr h => ?_)
  · obtain ⟨v, lo, hi, rfl, _⟩ := h
    rfl
  · obtain ⟨v, lo, hi, rfl, h⟩ := h
    refine ⟨_, (pss_one (ps_ret (pe_andT (pe_callS (ok_is_whole T) (hr.mono (by decide)) (by rfl) T.g_is_whole T.k_is_whole T.bd_is_whole (passAt (takes_of rfl rfl rfl rfl)) (pa_cons (pv 0) pa_nil)) (pe_one (pe_chain op_le op_le (pv 1) (pv 0) (pv 2)))))), ?_⟩
    walk_at "begin"
    walk_at "go"
    rcases h with ⟨n, rfl, q⟩ | ⟨h, q⟩
    · walk_at "go"
      refine x_iteD (fun h => ?_) (fun h => ?_)
      · walk_at "go"
        have e : decide (n ≤ hi) = decide (lo ≤ n ∧ n ≤ hi) := by simp [h]
        rw [e]
        exact q
      · walk_at "go"
        have e : false = decide (lo ≤ n ∧ n ≤ hi) := by simp [h]
        rw [← e] at q
        exact q
    · walk_at "go"
      exact q
/-! ### values that may be numbers -/
def NotS (v : V) : Prop := v = .non ∨ (∃ b, v = .bl b) ∨ ∃ s, v = .str s
theorem NotS.to {H : Hp} {v : V} (h : NotS v) : NotI K H v := by
  rcases h with h | h | h
  · exact .inl h
  · exact .inr (.inl h)
  · exact .inr (.inr (.inl h))
inductive Num : V → Option Int → Prop
  | int (n : Int) : Num (.int n) (some n)
  | no (v : V) : NotS v → Num v none
def inB (o : Option Int) (lo hi : Int) : Bool := match o with
  | some n => decide (lo ≤ n ∧ n ≤ hi)
  | none => false
theorem x_wNum {H : Hp} {Q : VK} {E : XK} {v : V} {o : Option Int} {lo hi : Int} (h : Num v o) (q : Q (.bl (inB o lo hi)) H) : spWithin K [v, .int lo, .int hi] H Q E := by
  cases h with
  | int n => exact ⟨_, _, _, rfl, .inl ⟨n, rfl, q⟩⟩
  | no v h => exact ⟨_, _, _, rfl, .inr ⟨h.to, q⟩⟩
/-! ### pairs of numbers as data -/
def prD (e : Int × Int) : PyData := .tuple [.int e.1, .int e.2]
theorem _root_.Kit.PairL.dp {K : PySem.W.Frag} {H : Hp} {q : Addr} {ws : List V} {is : List (Int × Int)} (h : PairL H ws is) (hq : H q = some (.lst ws)) : Dp K H (.ref q) (.list (is.map prD)) := by
  refine .lst (SqL.of hq) (dpAll_of (by rw [List.length_map]; exact h.1) fun i v d h1 h2 => ?_)
  rw [List.getElem?_map] at h2
  cases e : is[i]? with
  | none => rw [e] at h2; simp at h2
  | some t =>
    rw [e] at h2
    simp at h2
    subst h2
    obtain ⟨a, rfl, ha⟩ := h.2 i v t h1 e
    exact .tup (SqT.of ha) (.cons (.int _) (.cons (.int _) .nil))
/-! ### tallies -/
structure Tal where
  b : Int
  l : Int
  c : Int
  o : Int
def Tal.vs (t : Tal) : List V := [.int t.b, .int t.l, .int t.c, .int t.o]
def TalAt (H : Hp) (v : V) (t : Tal) : Prop := ∃ a, v = .ref a ∧ H a = some (.tup t.vs)
def TAll (H : Hp) (vs : List V) (ts : List Tal) : Prop := vs.length = ts.length ∧ ∀ (i : Nat) v t, vs[i]? = some v → ts[i]? = some t → TalAt H v t
/-- a list of tallies -/
def TL (H : Hp) (p : Addr) (ts : List Tal) : Prop := ∃ vs, H p = some (.lst vs) ∧ TAll H vs ts
theorem TalAt.mono {H H' : Hp} {v : V} {t : Tal} (s : TupS H H') (h : TalAt H v t) : TalAt H' v t := by
  obtain ⟨a, e, h⟩ := h
  exact ⟨a, e, s _ _ h⟩
theorem TAll.mono {H H' : Hp} {vs : List V} {ts : List Tal} (s : TupS H H') (h : TAll H vs ts) : TAll H' vs ts := ⟨h.1, fun i v t h1 h2 => (h.2 i v t h1 h2).mono s⟩
theorem TL.mono {H H' : Hp} {p : Addr} {ts : List Tal} (s : Same H H') (h : TL H p ts) : TL H' p ts := by
  obtain ⟨vs, e, h⟩ := h
  exact ⟨vs, s _ _ e, h.mono (TupS.of s)⟩
theorem TAll.nil {H : Hp} : TAll H [] [] := ⟨rfl, fun i v t h _ => by simp at h⟩
theorem TAll.snoc {H : Hp} {vs : List V} {ts : List Tal} {v : V} {t : Tal} (h : TAll H vs ts) (hv : TalAt H v t) : TAll H (vs ++ [v]) (ts ++ [t]) := by
  refine ⟨by simp [h.1], fun i x y h1 h2 => ?_⟩
  by_cases hi : i < vs.length
  · rw [List.getElem?_append_left hi] at h1
    rw [List.getElem?_append_left (h.1 ▸ hi)] at h2
    exact h.2 i x y h1 h2
  · have e : i = vs.length := by
      have := (List.getElem?_eq_some_iff.mp h1).1
      simp at this
      omega
    subst e
    rw [List.getElem?_append_right (Nat.le_refl _)] at h1
    rw [h.1, List.getElem?_append_right (Nat.le_refl _)] at h2
    simp at h1 h2
    subst h1 h2
    exact hv
theorem TAll.get {H : Hp} {vs : List V} {ts : List Tal} (h : TAll H vs ts) {i : Nat} {v : V} (hi : vs[i]? = some v) : ∃ t, ts[i]? = some t ∧ TalAt H v t := by
  have hl := (List.getElem?_eq_some_iff.mp hi).1
  have hl2 : i < ts.length := h.1 ▸ hl
  exact ⟨ts[i], List.getElem?_eq_getElem hl2, h.2 i v _ hi (List.getElem?_eq_getElem hl2)⟩
/-- what the law's tallies are like -/
def Good (pages now : Int) (ts : List Tal) : Prop := (∀ t ∈ ts, 0 ≤ t.b ∧ t.b < 16 ∧ 0 ≤ t.l ∧ t.l ≤ pages ∧ 0 ≤ t.c ∧ t.c < 10 ^ 30 ∧ 0 ≤ t.o ∧ t.o < now) ∧ ts.Pairwise (fun s t => s.b < t.b)
/-! ### tallies as data -/
def Tal.data (t : Tal) : PyData := .tuple [.int t.b, .int t.l, .int t.c, .int t.o]
theorem TalAt.dp {H : Hp} {v : V} {t : Tal} (h : TalAt H v t) : Dp K H v t.data := by
  obtain ⟨a, rfl, h⟩ := h
  exact .tup (SqT.of h) (.cons (.int _) (.cons (.int _) (.cons (.int _) (.cons (.int _) .nil))))
def tdata (ts : List Tal) : PyData := .list (ts.map Tal.data)
theorem tdata_sh (ts : List Tal) : Sh 9 (tdata ts) := by
  refine Sh.list (k := 8) fun d h => ?_
  obtain ⟨t, _, rfl⟩ := List.mem_map.mp h
  refine Sh.tup (k := 7) fun d h => ?_
  simp only [List.mem_cons, List.not_mem_nil, or_false] at h
  rcases h with rfl | rfl | rfl | rfl <;> exact Sh.int
theorem TAll.dp {H : Hp} {vs : List V} {ts : List Tal} (h : TAll H vs ts) : DpAll K H vs (ts.map Tal.data) := by
  refine dpAll_of (by rw [List.length_map]; exact h.1) fun i v d h1 h2 => ?_
  rw [List.getElem?_map] at h2
  cases e : ts[i]? with
  | none => rw [e] at h2; simp at h2
  | some t =>
    rw [e] at h2
    simp at h2
    subst h2
    exact (h.2 i v t h1 e).dp
theorem TL.dp {H : Hp} {p : Addr} {ts : List Tal} (h : TL H p ts) : Dp K H (.ref p) (tdata ts) := by
  obtain ⟨vs, e, h⟩ := h
  exact .lst (SqL.of e) h.dp
theorem TL.ne {H : Hp} {p q : Addr} {ts : List Tal} {Q : VK} (h1 : TL H p ts) (h2 : TL H q ts) (k : Q (.bl false) H) : uNe K (.ref p) (.ref q) H Q := x_neS2 h1.dp h2.dp (tdata_sh ts) k
theorem TL.eqNil {H : Hp} {p q : Addr} {ts : List Tal} {Q : VK} (h1 : TL H p ts) (h2 : H q = some (.lst [])) (k : Q (.bl ts.isEmpty) H) : uEq K (.ref p) (.ref q) H Q := by
  refine x_eqD h1.dp (.lst (SqL.of h2) .nil) (tdata_sh ts) (Sh.list (k := 8) fun d h => by simp at h) ?_
  cases ts with
  | nil => exact k
  | cons t ts => exact k
theorem TAll.sub {H : Hp} {vs : List V} {ts : List Tal} (h : TAll H vs ts) (k : Nat) : TAll H (vs.drop k) (ts.drop k) := ⟨by rw [List.length_drop, List.length_drop, h.1], fun i v t h1 h2 => by
  rw [List.getElem?_drop] at h1 h2
  exact h.2 _ v t h1 h2⟩
theorem TAll.take {H : Hp} {vs : List V} {ts : List Tal} (h : TAll H vs ts) (k : Nat) : TAll H (vs.take k) (ts.take k) := ⟨by rw [List.length_take, List.length_take, h.1], fun i v t h1 h2 => by
  rw [List.getElem?_take] at h1 h2
  split at h1
  · rename_i hk
    rw [if_pos hk] at h2
    exact h.2 _ v t h1 h2
  · simp at h1⟩
/-! the next stamp -/
def spNow : Sp := fun vs H Q _ => ∃ c : Int, vs = [.int c] ∧ ∀ n : Int, 1 ≤ n → n < 10 ^ 30 → Q (.int n) H
theorem ok_now (T : Txt K mg) : FO P w K mg base 1 T.a__law_now T.fd__law_now ["_law_cell"] spNow := by
  have sc := sc__law_now
  refine T.F__law_now.okX sc (fun vs H Q E h => ?_) (fun cdv A outer s H vs Q E hr h => ?_)
  · obtain ⟨_, rfl, _⟩ := h
    rfl
  · obtain ⟨c, rfl, q⟩ := h
    refine ⟨_, (pss_cons (ps_if (pt_cmpR (op_uEq hr.units) (pe_op op_mod (pv 0) pe_int) pe_int (nomark _)) (pss_one (ps_ret (pe_op op_uAdd pe_int (pe_op op_mod (pe_op op_fdivW (pv 0) pe_int) pe_int)))) pss_nil)
      (pss_cons (ps_if (pt_cmpR (op_uEq hr.units) (pe_op op_mod (pv 0) pe_int) pe_int (nomark _)) (pss_one (ps_ret (pe_op op_sub (pe_op op_pow pe_int pe_int) pe_int))) pss_nil)
      (pss_one (ps_ret (pe_op op_uAdd pe_int (pe_op op_mod (pe_op op_uMul (pv 0) pe_int) (pe_op op_sub (pe_op op_pow pe_int pe_int) pe_int))))))), ?_⟩
    walk_at "begin"
    walk_at "if"
    refine x_iteD (fun h => ?_) (fun h => ?_)
    · walk_at "go"
      exact q _ (by omega) (by omega)
    · walk_at "go"
      walk_at "if"
      refine x_iteD (fun h => ?_) (fun h => ?_)
      · walk_at "go"
        exact q _ (by decide) (by decide)
      · walk_at "go"
        exact q _ (by omega) (by omega)
theorem small64 {n : Nat} (h : n ≤ 1000) : n < sizeLine := Nat.lt_of_le_of_lt h (by decide)
def spTallies (K : PySem.W.Frag) : Sp := fun vs H Q _ => ∃ (a : Addr) (ns : List Int) (st pages now : Int), vs = [.ref a, .int st, .int pages, .int now] ∧ SqL K H a (ns.map V.int) ∧ (0 ≤ st ∧ 1 ≤ pages ∧ pages ≤ 16 ∧ 1 ≤ now ∧ now < 10 ^ 30) ∧
  ∀ p ts H', Same H H' → H p = none → TL H' p ts → ts ≠ [] → Good pages now ts → ts.length ≤ 16 → Q (.ref p) H'
theorem ok_tallies (T : Txt K mg) : FO P w K mg base 2 T.a__law_tallies T.fd__law_tallies ["_law_script", "_law_start", "_law_pages", "_law_now_here"] (spTallies K) := by
  have sc := sc__law_tallies
  refine T.F__law_tallies.okX sc (fun vs H Q E h => ?_) (fun cdv A outer s H vs Q E hr h => ?_)
  · obtain ⟨_, _, _, _, _, rfl, _⟩ := h
    rfl
  · obtain ⟨a, ns, st, pages, now, rfl, hS, ⟨hst, hp1, hp16, hn1, hn30⟩, q⟩ := h
    refine ⟨_, (pss_cons (ps_set (i := 4) sc.nd rfl (by first | exact Or.inl rfl | exact Or.inr rfl) (pe_lst pa_nil))
      (pss_cons (ps_for (passes_of rfl) rfl (pi_range1 (by rfl) T.b_range (pa_cons pe_int pa_nil)) (pg_name (i := 5) sc.nd rfl (by first | exact Or.inl rfl | exact Or.inr rfl)) (pss_cons (ps_set (i := 6) sc.nd rfl (by first | exact Or.inl rfl | exact Or.inr rfl) (pe_callS (ok_cell_at T) (hr.mono (by decide)) (by rfl) T.g__law_cell_at T.k__law_cell_at T.bd__law_cell_at (passAt (takes_of rfl rfl rfl rfl)) (pa_cons (pv 0) (pa_cons (pe_op op_uAdd (pv 1) (pv 5)) pa_nil))))
      (pss_one (ps_if (pt_cmpR op_gt (pe_op op_mod (pv 6) pe_int) pe_int (nomark _)) (pss_cons (ps_set (i := 7) sc.nd rfl (by first | exact Or.inl rfl | exact Or.inr rfl) (pe_op op_mod (pe_op op_uAdd (pe_op op_uAdd (pe_op op_uMul (pv 6) pe_int) (pe_op op_uMul pe_int (pv 5))) pe_int) pe_int))
      (pss_cons (ps_set (i := 8) sc.nd rfl (by first | exact Or.inl rfl | exact Or.inr rfl) (pe_op op_mod (pe_op op_uMul (pe_op op_uMul (pv 7) (pv 7)) pe_int) (pe_ix ix_seq (pe_lst (pa_cons pe_int (pa_cons (pe_op op_pow pe_int pe_int) pa_nil))) (pe_op op_mod (pe_op op_fdivW (pv 6) pe_int) pe_int) (fun _ _ => rfl))))
      (pss_one (ps_expr (pe_bm PySem.F.plainAttrs_list PySem.F.slot_list_append PySem.F.type_list_append mt_append (pv 4) (pa_cons (pe_tup (pa_cons (pv 5) (pa_cons (pe_op op_mod (pe_op op_fdivW (pv 6) pe_int) (pe_op op_uAdd (pv 2) pe_int)) (pa_cons (pv 8) (pa_cons (pe_op op_mod (pe_op op_uMul (pe_op op_uMul (pv 7) (pv 7)) (pv 7)) (pv 3)) pa_nil))))) pa_nil)))))) pss_nil))))
      (pss_cons (ps_if (pt_cmpR (op_uEq hr.units) (pv 4) (pe_lst pa_nil) (nomark _)) (pss_one (ps_expr (pe_bm PySem.F.plainAttrs_list PySem.F.slot_list_append PySem.F.type_list_append mt_append (pv 4) (pa_cons (pe_tup (pa_cons (pe_op op_mod (pe_op op_fdivW (pe_callS (ok_cell_at T) (hr.mono (by decide)) (by rfl) T.g__law_cell_at T.k__law_cell_at T.bd__law_cell_at (passAt (takes_of rfl rfl rfl rfl)) (pa_cons (pv 0) (pa_cons (pv 1) pa_nil))) pe_int) pe_int) (pa_cons pe_int (pa_cons pe_int (pa_cons pe_int pa_nil))))) pa_nil)))) pss_nil)
      (pss_one (ps_ret (pv 4)))))), ?_⟩
    walk_at "begin"
    walk_at "go"
    rename_i p H1 hp hs hn
    refine x_seq ?_
    walk_at "go"
    refine x_frR1 (by omega) (fun i σ H2 => ∃ (ts : List Tal) (v5 v6 v7 v8 : Option V), σ = [some (.ref a), some (.int st), some (.int pages), some (.int now), some (.ref p), v5, v6, v7, v8] ∧ Same H H2 ∧ TL H2 p ts ∧ Good pages now ts ∧ (∀ t ∈ ts, t.b < (i : Nat)) ∧ ts.length ≤ i)
      ⟨[], _, _, _, _, rfl, hs, ⟨[], hn, TAll.nil⟩, ⟨fun t h => by simp at h, List.Pairwise.nil⟩, fun t h => by simp at h, Nat.le_refl _⟩ ?_ ?_
    · intro i σ H2 hi ⟨ts, v5, v6, v7, v8, hσ, hs2, ⟨vs, hvs, hall⟩, hg, hb, hl⟩
      subst hσ
      have hi16 : i < 16 := hi
      rw [Int.zero_add]
      walk_at "go"
      generalize cl ns (st + (i : Nat)) = c
      refine x_iteD (fun h => ?_) (fun h => ?_)
      · walk_at "go"
        have hn1 := Int.emod_nonneg (c * 48271 + 7919 * (i : Nat) + 11) (show (2147483647 : Int) ≠ 0 by decide)
        have hn2 := Int.emod_lt_of_pos (c * 48271 + 7919 * (i : Nat) + 11) (show (0 : Int) < 2147483647 by decide)
        generalize (c * 48271 + 7919 * (i : Nat) + 11) % 2147483647 = n at hn1 hn2 ⊢
        walk_at "go"
        obtain ⟨m, em, hm, hm4⟩ : ∃ m : Int, [V.int 4, V.int (10 ^ 30)].getD (c / 3 % 2).toNat V.non = V.int m ∧ 0 < m ∧ m ≤ 10 ^ 30 := by
          have hk : c / 3 % 2 = 0 ∨ c / 3 % 2 = 1 := by omega
          rcases hk with e | e <;> rw [e]
          · exact ⟨4, rfl, by decide, by decide⟩
          · exact ⟨10 ^ 30, rfl, by decide, Int.le_refl _⟩
        rw [em]
        have hc1 := Int.emod_nonneg (n * n * 69621) (show m ≠ 0 by omega)
        have hc2 := Int.emod_lt_of_pos (n * n * 69621) hm
        have hl1 := Int.emod_nonneg (c / 6) (show pages + 1 ≠ 0 by omega)
        have hl2 := Int.emod_lt_of_pos (c / 6) (show 0 < pages + 1 by omega)
        have ho1 := Int.emod_nonneg (n * n * n) (show now ≠ 0 by omega)
        have ho2 := Int.emod_lt_of_pos (n * n * n) (show 0 < now by omega)
        have hvl : vs.length < sizeLine := small64 (by have := hall.1; omega)
        walk_at "go"
        rename_i q0 H3 hq0 hs3 hn3 q4 H4 hq4 hs4 hn4
        have s24 : Same H2 H4 := hs3.trans hs4
        have hall4 := (hall.mono (TupS.of s24)).snoc (v := .ref q4) (t := ⟨(i : Nat), c / 6 % (pages + 1), n * n * 69621 % m, n * n * n % now⟩) ⟨q4, rfl, hn4⟩
        refine ⟨ts ++ [⟨(i : Nat), c / 6 % (pages + 1), n * n * 69621 % m, n * n * n % now⟩], _, _, _, _, rfl, same_updS (hs2.trans s24) hp, ⟨_, upd_same, hall4.mono (TupS.upd (s24 _ _ hvs) (fun _ z => by cases z))⟩, ⟨?_, ?_⟩, ?_, ?_⟩
        · intro t ht
          rcases List.mem_append.mp ht with ht | ht
          · exact hg.1 t ht
          · rw [List.mem_singleton] at ht
            subst ht
            refine ⟨?_, ?_, hl1, ?_, hc1, ?_, ho1, ho2⟩ <;> dsimp only <;> omega
        · refine List.pairwise_append.mpr ⟨hg.2, List.pairwise_singleton _ _, fun x hx y hy => ?_⟩
          rw [List.mem_singleton] at hy
          subst hy
          exact hb x hx
        · intro t ht
          rcases List.mem_append.mp ht with ht | ht
          · have := hb t ht
            omega
          · rw [List.mem_singleton] at ht
            subst ht
            dsimp only
            omega
        · rw [List.length_append, List.length_singleton]
          omega
      · walk_at "go"
        exact ⟨ts, _, _, _, _, rfl, hs2, ⟨vs, hvs, hall⟩, hg, fun t ht => by have := hb t ht; omega, by omega⟩
    · intro σ H2 ⟨ts, v5, v6, v7, v8, hσ, hs2, ⟨vs, hvs, hall⟩, hg, hb, hl⟩
      subst hσ
      dsimp only
      refine x_join (fun σ' H3 => ∃ ts' v5 v6 v7 v8, σ' = [some (.ref a), some (.int st), some (.int pages), some (.int now), some (.ref p), v5, v6, v7, v8] ∧ Same H H3 ∧ TL H3 p ts' ∧ Good pages now ts' ∧ ts' ≠ [] ∧ ts'.length ≤ 16) (fun R hR => ?_) ?_
      · walk_at "go"
        rename_i q0 H3 hq0 hs3 hn3
        refine TL.eqNil (TL.mono hs3 ⟨vs, hvs, hall⟩) hn3 ?_
        walk_at "go"
        cases ts with
        | cons t0 ts0 =>
          exact iteF (hR _ _ ⟨t0 :: ts0, _, _, _, _, rfl, hs2.trans hs3, TL.mono hs3 ⟨vs, hvs, hall⟩, hg, (fun z => by cases z), hl⟩)
        | nil =>
          refine iteT ?_
          have e0 : vs = [] := List.length_eq_zero_iff.mp hall.1
          subst e0
          walk_at "go"
          rename_i q4 H4 hq4 hs4 hn4
          have hb1 : 0 ≤ cl ns st / 3 % 16 ∧ cl ns st / 3 % 16 < 16 := by omega
          refine hR _ _ ⟨[⟨cl ns st / 3 % 16, 0, 0, 0⟩], _, _, _, _, rfl, same_updS ((hs2.trans hs3).trans hs4) hp, ⟨_, upd_same, ((TAll.nil (H := H4)).snoc (t := ⟨cl ns st / 3 % 16, 0, 0, 0⟩) ⟨q4, rfl, hn4⟩).mono (TupS.upd (hs4 _ _ (hs3 _ _ hvs)) (fun _ z => by cases z))⟩, ⟨?_, List.pairwise_singleton _ _⟩, (fun z => by cases z), Nat.le_of_ble_eq_true rfl⟩
          intro t ht
          rw [List.mem_singleton] at ht
          subst ht
          exact ⟨hb1.1, hb1.2, Int.le_refl _, by dsimp only; omega, Int.le_refl _, by dsimp only; omega, Int.le_refl _, by dsimp only; omega⟩
      · intro σ' H3 ⟨ts', v5, v6, v7, v8, hσ, hs3, ht, hg', hne, hl'⟩
        subst hσ
        walk_at "go"
        exact q p ts' H3 hs3 hp ht hne hg' hl'
theorem x_now {H : Hp} {Q : VK} {E : XK} {c : Int} (q : ∀ n : Int, 1 ≤ n → n < 10 ^ 30 → Q (.int n) H) : spNow [.int c] H Q E := ⟨c, rfl, q⟩
theorem x_tallies {H : Hp} {Q : VK} {E : XK} {a : Addr} {ns : List Int} {st pages now : Int} (hS : SqL K H a (ns.map V.int))
  (q : ∀ p ts H', Same H H' → H p = none → TL H' p ts → ts ≠ [] → Good pages now ts → ts.length ≤ 16 → Q (.ref p) H') (h : 0 ≤ st ∧ 1 ≤ pages ∧ pages ≤ 16 ∧ 1 ≤ now ∧ now < 10 ^ 30) : spTallies K [.ref a, .int st, .int pages, .int now] H Q E := ⟨a, ns, st, pages, now, rfl, hS, h, q⟩
local macro_rules | `(tactic| walk_at "u") => `(tactic| first
  | ((with_reducible refine x_now ?_); intro now hnow1 hnow2)
  | ((with_reducible refine' x_tallies ?hq ?_ ?hs); (case hq => walk_at "sq"); (try (case hs => walk_at "side")); intro p ts H1 hs hp hT hne hG hL))
/-! ### rules -/
def TOk (pages now : Int) (t : Tal) : Prop := 0 ≤ t.b ∧ t.b < 16 ∧ 0 ≤ t.l ∧ t.l ≤ pages ∧ 0 ≤ t.c ∧ t.c < 10 ^ 30 ∧ 0 ≤ t.o ∧ t.o < now
def PN (pages now : Int) : Prop := 1 ≤ pages ∧ pages ≤ 16 ∧ 1 ≤ now ∧ now < 10 ^ 30
/-- what goes_ahead of a rule tells: is g t u, and what it makes stays apart -/
def spGA (g : Int → Int → Tal → Tal → Bool) : Sp := fun vs H Q _ => ∃ (self one other : V) (t u : Tal) (pages now : Int), vs = [self, one, other, .int pages, .int now] ∧ TalAt H one t ∧ TalAt H other u ∧ TOk pages now t ∧ TOk pages now u ∧ PN pages now ∧
  ∀ H', Same H H' → Q (.bl (g pages now t u)) H'
/-- the same, of the object at r, as long as I is so -/
def spGAr (r : Addr) (I : Hp → Prop) (g : Int → Int → Tal → Tal → Bool) : Sp := fun vs H Q _ => ∃ (one other : V) (t u : Tal) (pages now : Int), vs = [.ref r, one, other, .int pages, .int now] ∧ I H ∧ TalAt H one t ∧ TalAt H other u ∧ TOk pages now t ∧ TOk pages now u ∧ PN pages now ∧
  ∀ H', Same H H' → Q (.bl (g pages now t u)) H'
/-- an object with such a rule: rf, what it leans on; n, its level -/
def RuleOb (P : Program) (w : World) (K : PySem.W.Frag) (mg : Str → Option Value) (base : Heap) (n : Nat) (g : Int → Int → Tal → Tal → Bool) (H : Hp) (rf : List Addr) (r : Addr) : Prop :=
  r ∈ rf ∧ (∀ a ∈ rf, ∃ o, H a = some o ∧ ∀ xs, o ≠ .tup xs) ∧ ∃ C dx fs I, H r = some (.ins C dx fs) ∧ fs.lookup (Str.ofString "goes_ahead") = none ∧ fs.lookup (Str.ofString "choose") = none ∧
    (∀ H1 H2 : Hp, (∀ a ∈ rf, ∀ o, H1 a = some o → H2 a = some o) → I H1 → I H2) ∧ I H ∧ MO P w K mg base (L2.CX P w) n C "goes_ahead" (spGAr r I g)
theorem RuleOb.keep {n : Nat} {g : Int → Int → Tal → Tal → Bool} {H H' : Hp} {rf : List Addr} {r : Addr} (k : ∀ a ∈ rf, ∀ o, H a = some o → H' a = some o) (h : RuleOb P w K mg base n g H rf r) : RuleOb P w K mg base n g H' rf r := by
  obtain ⟨m, t, C, dx, fs, I, e, l1, l2, st, i, mo⟩ := h
  exact ⟨m, fun a ha => let ⟨o, e, z⟩ := t a ha; ⟨o, k a ha o e, z⟩, C, dx, fs, I, k r m _ e, l1, l2, st, st H H' k i, mo⟩
theorem RuleOb.mono {n : Nat} {g : Int → Int → Tal → Tal → Bool} {H H' : Hp} {rf : List Addr} {r : Addr} (s : Same H H') (h : RuleOb P w K mg base n g H rf r) : RuleOb P w K mg base n g H' rf r := h.keep fun a _ o e => s a o e
/-- a rule that leans on nothing -/
theorem ruleOb1 {n : Nat} {g : Int → Int → Tal → Tal → Bool} {H : Hp} {r C dx : Addr} (h : H r = some (.ins C dx [])) (m : MO P w K mg base (L2.CX P w) n C "goes_ahead" (spGA g)) : RuleOb P w K mg base n g H [r] r := by
  refine ⟨List.mem_cons_self, fun a ha => ⟨.ins C dx [], by rw [List.mem_singleton.mp ha]; exact h, fun xs z => (by cases z)⟩, C, dx, [], fun _ => True, h, rfl, rfl, fun _ _ _ _ => trivial, trivial, ?_⟩
  obtain ⟨⟨f, fd, ps, c1, c2, c3, c4⟩⟩ := m
  exact ⟨⟨f, fd, ps, c1, c2, c3.imp fun vs H Q E ⟨one, other, t, u, pages, now, e, _, z⟩ => ⟨_, one, other, t, u, pages, now, e, z⟩, c4⟩⟩
/-- the first of those that no later one goes ahead of -/
def pickL (g : Tal → Tal → Bool) (b : Tal) (ts : List Tal) : Tal := ts.foldl (fun b u => if g u b = true then u else b) b
def pick (g : Tal → Tal → Bool) : List Tal → Tal
  | [] => ⟨0, 0, 0, 0⟩
  | t :: ts => pickL g t ts
theorem pickL_mem (g : Tal → Tal → Bool) : ∀ (ts : List Tal) (b : Tal), pickL g b ts = b ∨ pickL g b ts ∈ ts
  | [], b => .inl rfl
  | t :: ts, b => by
    show pickL g (if g t b = true then t else b) ts = b ∨ _
    rcases pickL_mem g ts (if g t b = true then t else b) with h | h
    · rw [h]
      show _ ∨ pickL g (if g t b = true then t else b) ts ∈ _
      rw [h]
      by_cases hg : g t b = true
      · rw [if_pos hg]; exact .inr List.mem_cons_self
      · rw [if_neg hg]; exact .inl rfl
    · exact .inr (List.mem_cons_of_mem _ h)
theorem pickL_snoc (g : Tal → Tal → Bool) (b t : Tal) (ts : List Tal) : pickL g b (ts ++ [t]) = if g t (pickL g b ts) = true then t else pickL g b ts := by
  unfold pickL
  rw [List.foldl_append]
  rfl
def spChoose (P : Program) (w : World) (K : PySem.W.Frag) (mg : Str → Option Value) (base : Heap) : Sp := fun vs H Q _ => ∃ (r p : Addr) (pages now : Int) (ts : List Tal) (g : Int → Int → Tal → Tal → Bool) (rf : List Addr), vs = [.ref r, .ref p, .int pages, .int now] ∧ RuleOb P w K mg base 17 g H rf r ∧ TL H p ts ∧ ts ≠ [] ∧ (∀ t ∈ ts, TOk pages now t) ∧ ts.length ≤ 16 ∧ PN pages now ∧
  ∀ H', Same H H' → Q (.int (pick (g pages now) ts).b) H'
theorem ok_Rule_choose (T : Txt K mg) : FO P w K mg base 18 T.a_Rule_choose T.fd_Rule_choose ["self", "tallies", "pages", "now"] (spChoose P w K mg base) := by
  have sc := sc_Rule_choose
  refine T.F_Rule_choose.okX sc (fun vs H Q E h => ?_) (fun cdv A outer s H vs Q E hr h => ?_)
  · obtain ⟨_, _, _, _, _, _, _, rfl, _⟩ := h
    rfl
  · obtain ⟨r, p, pages, now, ts, g, rf, rfl, hR, hT, hne, hok, hlen, hpn, q⟩ := h
    refine ⟨_, (pss_cons (ps_set (i := 4) sc.nd rfl (by first | exact Or.inl rfl | exact Or.inr rfl) (pe_ix ix_seq (pv 1) pe_int (fun _ _ => rfl)))
      (pss_cons (ps_for (passes_of rfl) rfl (pi_list (pe_slice sl_u (pv 1) (po_some pe_int) po_none)) (pg_name (i := 5) sc.nd rfl (by first | exact Or.inl rfl | exact Or.inr rfl)) (pss_one (ps_if (pt_truth (pe_methD (k := 17) (pv 0) (hr.mono (by decide)) (passAt (takes_of rfl rfl rfl rfl)) (pa_cons (pv 5) (pa_cons (pv 4) (pa_cons (pv 2) (pa_cons (pv 3) pa_nil))))) (by intro _; rfl)) (pss_one (ps_set (i := 4) sc.nd rfl (by first | exact Or.inl rfl | exact Or.inr rfl) (pv 5))) pss_nil)))
      (pss_one (ps_ret (pe_ix ix_seq (pv 4) pe_int (fun _ _ => rfl)))))), ?_⟩
    obtain ⟨vs, hvs, hall⟩ := hT
    obtain ⟨t0, ts0, rfl⟩ : ∃ t0 ts0, ts = t0 :: ts0 := by
      cases ts with
      | nil => exact absurd rfl hne
      | cons a b => exact ⟨a, b, rfl⟩
    obtain ⟨v0, vs0, rfl⟩ : ∃ v0 vs0, vs = v0 :: vs0 := by
      cases vs with
      | nil => exact absurd hall.1 (by simp)
      | cons a b => exact ⟨a, b, rfl⟩
    walk_at "begin"
    walk_at "go"
    refine x_seq ?_
    walk_at "go"
    rename_i q0 H1 hq0 hs1 hn1
    rw [show cutV (v0 :: vs0) (some 1) none = vs0 from cutV_from 1] at hn1
    have hall1 : TAll H1 vs0 ts0 := (hall.mono (TupS.of hs1)).sub 1
    refine x_frL (SqL.of hn1) (fun i σ H2 => ∃ (v5 : Option V) (bv : V), σ = [some (.ref r), some (.ref p), some (.int pages), some (.int now), some bv, v5] ∧ Same H1 H2 ∧ TalAt H2 bv (pickL (g pages now) t0 (ts0.take i)))
      ⟨_, _, rfl, fun _ _ h => h, (hall.2 0 v0 t0 rfl rfl).mono (TupS.of hs1)⟩ (fun i σ H2 hi ⟨_, _, _, hs2, _⟩ => hs2.seq (SqL.of hn1)) ?_ ?_
    · intro i x σ H2 hx ⟨v5, bv, hσ, hs2, hb⟩
      subst hσ
      obtain ⟨t, hti, hxt⟩ := hall1.get hx
      have hit := (List.getElem?_eq_some_iff.mp hti).1
      have hbo : TOk pages now (pickL (g pages now) t0 (ts0.take i)) := by
        rcases pickL_mem (g pages now) (ts0.take i) t0 with e | m
        · rw [e]; exact hok _ List.mem_cons_self
        · exact hok _ (List.mem_cons_of_mem _ (List.mem_of_mem_take m))
      obtain ⟨_, _, C, dx, fs, I, hC, hl1, _, _, hI, hM⟩ := hR.mono (hs1.trans hs2)
      walk_at "go"
      refine x_mtK hC hM hl1 ?_
      walk_at "go"
      refine ⟨_, _, t, _, pages, now, rfl, hI, hxt.mono (TupS.of hs2), hb, hok _ (List.mem_cons_of_mem _ (List.mem_of_getElem? hti)), hbo, hpn, fun H3 hs3 => ?_⟩
      have et : ts0.take (i + 1) = ts0.take i ++ [t] := by rw [List.take_add_one, hti]; rfl
      rw [et, pickL_snoc]
      walk_at "go"
      refine x_iteB (fun hg => ?_) (fun hg => ?_)
      · walk_at "go"
        rw [if_pos hg]
        exact ⟨_, _, rfl, hs2.trans hs3, (hxt.mono (TupS.of hs2)).mono (TupS.of hs3)⟩
      · walk_at "go"
        rw [if_neg (by rw [hg]; decide)]
        exact ⟨_, _, rfl, hs2.trans hs3, hb.mono (TupS.of hs3)⟩
    · intro σ H2 ⟨v5, bv, hσ, hs2, hb⟩
      subst hσ
      rw [hall1.1, List.take_length] at hb
      obtain ⟨a, rfl, hb⟩ := hb
      walk_at "go"
      exact q _ (hs1.trans hs2)
/-! ### rules, told (as in p0; for laws without a store) -/
inductive Rl
  | by (g : Int → Int → Tal → Tal → Bool)
  | window (n : Int)
  | follow (l : List Int) (i : Nat)
def Rl.choose (R : Rl) (ts : List Tal) (pages now : Int) : Int × Rl := match R with
  | .by g => ((pick (g pages now) ts).b, .by g)
  | .window n => ((pick (fun t u => decide (t.l < u.l)) (ts.filter fun t => decide ((t.o, t.b) ∈ (sortP (ts.map fun t => (t.o, t.b))).take n.toNat))).b, .window n)
  | .follow l i => (match l[i]? with
    | none => (ts.headD ⟨0, 0, 0, 0⟩).b
    | some b => if (ts.any fun t => decide (t.b = b)) = true then b else (ts.headD ⟨0, 0, 0, 0⟩).b, .follow l (i + 1))
/-! ### rules as objects: by a way to go ahead (Rule, Fewest, Eldest, Worth), a window, a list that is followed -/
def Rl.kind : Rl → Nat
  | .by _ => 0
  | .window _ => 1
  | .follow _ _ => 2
/-- what such an object of the class C is like -/
def RlOb (P : Program) (w : World) (K : PySem.W.Frag) (mg : Str → Option Value) (base : Heap) (C : Addr) (H : Hp) (rf : List Addr) (r : Addr) (R : Rl) : Prop := match R with
  | .by g => RuleOb P w K mg base 17 g H rf r ∧ ∃ dx fs, H r = some (.ins C dx fs)
  | .window n => rf = [r] ∧ (1 ≤ n ∧ n ≤ 16) ∧ ∃ dx, H r = some (.ins C dx [("many", .int n)])
  | .follow l i => ∃ bl, rf = [r, bl] ∧ ∃ dx, H r = some (.ins C dx [("blocks", .ref bl), ("asked", .int (i : Int))]) ∧ H bl = some (.lst (l.map V.int))
theorem RlOb.ins {C : Addr} {H : Hp} {rf : List Addr} {r : Addr} {R : Rl} (h : RlOb P w K mg base C H rf r R) : r ∈ rf ∧ ∃ dx fs, H r = some (.ins C dx fs) ∧ fs.lookup (Str.ofString "choose") = none := by
  cases R with
  | «by» g =>
    obtain ⟨⟨m, _, C', dx', fs', _, e, _, l, _⟩, dx, fs, h⟩ := h
    rw [e] at h
    cases h
    exact ⟨m, dx', fs', e, l⟩
  | window n =>
    obtain ⟨e, _, dx, h⟩ := h
    exact ⟨by rw [e]; exact List.mem_cons_self, dx, _, h, rfl⟩
  | follow l i =>
    obtain ⟨bl, e, dx, h, _⟩ := h
    exact ⟨by rw [e]; exact List.mem_cons_self, dx, _, h, rfl⟩
theorem RlOb.there {C : Addr} {H : Hp} {rf : List Addr} {r : Addr} {R : Rl} (h : RlOb P w K mg base C H rf r R) : ∀ a ∈ rf, ∃ o, H a = some o ∧ ∀ xs, o ≠ .tup xs := fun a ha => by
  cases R with
  | «by» g =>
    exact h.1.2.1 a ha
  | window n =>
    obtain ⟨e, _, dx, h⟩ := h
    rw [e, List.mem_singleton] at ha
    rw [ha]
    exact ⟨_, h, fun _ z => by cases z⟩
  | follow l i =>
    obtain ⟨bl, e, dx, h, h2⟩ := h
    rw [e] at ha
    rcases List.mem_cons.mp ha with z | z
    · rw [z]
      exact ⟨_, h, fun _ z => by cases z⟩
    · rw [List.mem_singleton.mp z]
      exact ⟨_, h2, fun _ z => by cases z⟩
theorem RlOb.off {C : Addr} {H H' : Hp} {rf : List Addr} {r : Addr} {R : Rl} {S : List Addr} (h : RlOb P w K mg base C H rf r R) (o : Off S H H') (n : ∀ a ∈ rf, a ∉ S) : RlOb P w K mg base C H' rf r R := by
  cases R with
  | «by» g =>
    obtain ⟨ob, dx, fs, h⟩ := h
    exact ⟨ob.keep fun a ha u e => o.at e (n a ha), dx, fs, o.at h (n r ob.1)⟩
  | window k =>
    obtain ⟨e, hk, dx, h⟩ := h
    exact ⟨e, hk, dx, o.at h (n r (by rw [e]; exact List.mem_cons_self))⟩
  | follow l i =>
    obtain ⟨bl, e, dx, h, h2⟩ := h
    exact ⟨bl, e, dx, o.at h (n r (by rw [e]; exact List.mem_cons_self)), o.at h2 (n bl (by rw [e]; exact List.mem_cons_of_mem _ List.mem_cons_self))⟩
/-- how it chooses -/
def spChR (P : Program) (w : World) (K : PySem.W.Frag) (mg : Str → Option Value) (base : Heap) (kind : Nat) (C : Addr) : Sp := fun vs H Q _ => ∃ (rf : List Addr) (r p : Addr) (R : Rl) (ts : List Tal) (pages now : Int), vs = [.ref r, .ref p, .int pages, .int now] ∧ R.kind = kind ∧ RlOb P w K mg base C H rf r R ∧ TL H p ts ∧ ts ≠ [] ∧ (∀ t ∈ ts, TOk pages now t) ∧ ts.length ≤ 16 ∧ PN pages now ∧
  ∀ H', Off rf H H' → RlOb P w K mg base C H' rf r (R.choose ts pages now).2 → Q (.int (R.choose ts pages now).1) H'
def RlAt (P : Program) (w : World) (K : PySem.W.Frag) (mg : Str → Option Value) (base : Heap) (H : Hp) (rf : List Addr) (r : Addr) (R : Rl) : Prop := ∃ C, RlOb P w K mg base C H rf r R ∧ Cls K C ∧ MO P w K mg base (L2.CX P w) 18 C "choose" (spChR P w K mg base R.kind C)
theorem RlAt.there {H : Hp} {rf : List Addr} {r : Addr} {R : Rl} (h : RlAt P w K mg base H rf r R) : ∀ a ∈ rf, ∃ o, H a = some o ∧ ∀ xs, o ≠ .tup xs := by
  obtain ⟨C, h, _⟩ := h
  exact h.there
theorem RlAt.off {H H' : Hp} {rf : List Addr} {r : Addr} {R : Rl} {S : List Addr} (h : RlAt P w K mg base H rf r R) (o : Off S H H') (n : ∀ a ∈ rf, a ∉ S) (tt : TupS H H') : RlAt P w K mg base H' rf r R := by
  obtain ⟨C, h, c, m⟩ := h
  exact ⟨C, h.off o n, c, m⟩
theorem RlAt.mono {H H' : Hp} {rf : List Addr} {r : Addr} {R : Rl} (s : Same H H') (h : RlAt P w K mg base H rf r R) : RlAt P w K mg base H' rf r R :=
  h.off (S := []) (Off.of s) (fun _ _ z => by cases z) (TupS.of s)
/-- a rule that chooses among what it is told -/
def Rl.ok : Rl → Prop
  | .window n => 1 ≤ n
  | _ => True
theorem RlAt.ok {H : Hp} {rf : List Addr} {r : Addr} {R : Rl} (h : RlAt P w K mg base H rf r R) : R.ok := by
  obtain ⟨C, h, _⟩ := h
  cases R with
  | «by» g => trivial
  | window _ => exact h.2.1.1
  | follow _ _ => trivial
/-! ### the rules Rule, Fewest, Eldest -/
def fk (kind : Int) (t : Tal) : Int := if kind = 0 then 0 else if kind = 1 then t.l else t.o
def gk (kind : Int) : Int → Int → Tal → Tal → Bool := fun _ _ t u => decide (fk kind t < fk kind u)
theorem ok_Rule_goes_ahead (T : Txt K mg) : FO P w K mg base 1 T.a_Rule_goes_ahead T.fd_Rule_goes_ahead ["self", "one", "other", "pages", "now"] (spGA (gk 0)) := by
  have sc := sc_Rule_goes_ahead
  refine T.F_Rule_goes_ahead.okX sc (fun vs H Q E h => ?_) (fun cdv A outer s H vs Q E hr h => ?_)
  · obtain ⟨_, _, _, _, _, _, _, rfl, _⟩ := h
    rfl
  · obtain ⟨self, one, other, t, u, pages, now, rfl, h1, h2, o1, o2, hpn, q⟩ := h
    refine ⟨_, (pss_one (ps_ret pe_bl)), ?_⟩
    walk_at "begin"
    walk_at "go"
    exact q H fun _ _ h => h
theorem ok_Fewest_goes_ahead (T : Txt K mg) : FO P w K mg base 1 T.a_Fewest_goes_ahead T.fd_Fewest_goes_ahead ["self", "one", "other", "pages", "now"] (spGA (gk 1)) := by
  have sc := sc_Fewest_goes_ahead
  refine T.F_Fewest_goes_ahead.okX sc (fun vs H Q E h => ?_) (fun cdv A outer s H vs Q E hr h => ?_)
  · obtain ⟨_, _, _, _, _, _, _, rfl, _⟩ := h
    rfl
  · obtain ⟨self, one, other, t, u, pages, now, rfl, ⟨a, rfl, h1⟩, ⟨b, rfl, h2⟩, o1, o2, hpn, q⟩ := h
    refine ⟨_, (pss_one (ps_ret (pe_cmpR op_uLt (pe_ix ix_seq (pv 1) pe_int (fun _ _ => rfl)) (pe_ix ix_seq (pv 2) pe_int (fun _ _ => rfl)) (nomark _)))), ?_⟩
    walk_at "begin"
    walk_at "go"
    exact q H fun _ _ h => h
theorem ok_Eldest_goes_ahead (T : Txt K mg) : FO P w K mg base 1 T.a_Eldest_goes_ahead T.fd_Eldest_goes_ahead ["self", "one", "other", "pages", "now"] (spGA (gk 2)) := by
  have sc := sc_Eldest_goes_ahead
  refine T.F_Eldest_goes_ahead.okX sc (fun vs H Q E h => ?_) (fun cdv A outer s H vs Q E hr h => ?_)
  · obtain ⟨_, _, _, _, _, _, _, rfl, _⟩ := h
    rfl
  · obtain ⟨self, one, other, t, u, pages, now, rfl, ⟨a, rfl, h1⟩, ⟨b, rfl, h2⟩, o1, o2, hpn, q⟩ := h
    refine ⟨_, (pss_one (ps_ret (pe_cmpR op_uLt (pe_ix ix_seq (pv 1) pe_int (fun _ _ => rfl)) (pe_ix ix_seq (pv 2) pe_int (fun _ _ => rfl)) (nomark _)))), ?_⟩
    walk_at "begin"
    walk_at "go"
    exact q H fun _ _ h => h
def gW : Int → Int → Tal → Tal → Bool := fun pages now t u => decide ((pages - u.l) * (now - u.o) * (pages + t.l) < (pages - t.l) * (now - t.o) * (pages + u.l))
theorem ok_Worth_goes_ahead (T : Txt K mg) : FO P w K mg base 1 T.a_Worth_goes_ahead T.fd_Worth_goes_ahead ["self", "one", "other", "pages", "now"] (spGA gW) := by
  have sc := sc_Worth_goes_ahead
  refine T.F_Worth_goes_ahead.okX sc (fun vs H Q E h => ?_) (fun cdv A outer s H vs Q E hr h => ?_)
  · obtain ⟨_, _, _, _, _, _, _, rfl, _⟩ := h
    rfl
  · obtain ⟨self, one, other, t, u, pages, now, rfl, ⟨a, rfl, h1⟩, ⟨b, rfl, h2⟩, ⟨_, _, o1, o2, _, _, o3, o4⟩, ⟨_, _, p1, p2, _, _, p3, p4⟩, ⟨hp1, hp2, hp3, hp4⟩, q⟩ := h
    refine ⟨_, (pss_cons (ps_set (i := 5) sc.nd rfl (by first | exact Or.inl rfl | exact Or.inr rfl) (pe_op op_uMul (pe_op op_uMul (pe_op op_sub (pv 3) (pe_ix ix_seq (pv 1) pe_int (fun _ _ => rfl))) (pe_op op_sub (pv 4) (pe_ix ix_seq (pv 1) pe_int (fun _ _ => rfl)))) (pe_op op_uAdd (pv 3) (pe_ix ix_seq (pv 2) pe_int (fun _ _ => rfl)))))
      (pss_cons (ps_set (i := 6) sc.nd rfl (by first | exact Or.inl rfl | exact Or.inr rfl) (pe_op op_uMul (pe_op op_uMul (pe_op op_sub (pv 3) (pe_ix ix_seq (pv 2) pe_int (fun _ _ => rfl))) (pe_op op_sub (pv 4) (pe_ix ix_seq (pv 2) pe_int (fun _ _ => rfl)))) (pe_op op_uAdd (pv 3) (pe_ix ix_seq (pv 1) pe_int (fun _ _ => rfl)))))
      (pss_one (ps_ret (pe_cmpR op_gt (pv 5) (pv 6) (nomark _)))))), ?_⟩
    walk_at "begin"
    unfold Tal.vs at h1 h2
    walk_at "go"
    exact q H fun _ _ h => h
/-! ### a window: among the eldest -/
theorem _root_.Kit.PairL.take {H : Hp} {ws : List V} {is : List (Int × Int)} (h : PairL H ws is) (m : Nat) : PairL H (ws.take m) (is.take m) := ⟨by rw [List.length_take, List.length_take, h.1], fun i x e h1 h2 => by
  rw [List.getElem?_take] at h1 h2
  split at h1
  · rename_i hi
    rw [if_pos hi] at h2
    exact h.2 i x e h1 h2
  · cases h1⟩
def spWInit (T : Txt K mg) : Sp := fun vs H Q E => ∃ (r dx : Addr) (v : V) (o : Option Int), vs = [.ref r, v] ∧ H r = some (.ins T.C_Window dx []) ∧ Num v o ∧ (inB o 1 16 = true → ∀ H', Off [r] H H' → H' r = some (.ins T.C_Window dx [("many", v)]) → Q .non H') ∧ (inB o 1 16 = false → E (.ref T.C_NoRule) none H)
theorem ok_Window_init (T : Txt K mg) : FO P w K mg base 3 T.a_Window_init T.fd_Window_init ["self", "many"] (spWInit T) := by
  have sc := sc_Window_init
  refine T.F_Window_init.okX sc (fun vs H Q E h => ?_) (fun cdv A outer s H vs Q E hr h => ?_)
  · obtain ⟨_, _, _, _, rfl, _⟩ := h
    rfl
  · obtain ⟨r, dx, v, o, rfl, hR, hn, q1, q2⟩ := h
    refine ⟨_, (pss_cons (ps_if (pt_not (pt_truth (pe_callS (ok_is_within T) (hr.mono (by decide)) (by rfl) T.g_is_within T.k_is_within T.bd_is_within (passAt (takes_of rfl rfl rfl rfl)) (pa_cons (pv 1) (pa_cons pe_int (pa_cons pe_int pa_nil)))) (by intro _; rfl))) (pss_one (ps_raiseK rfl (takes_of rfl rfl rfl rfl) (pmk_ownK T.xc_NoRule T.g_NoRule rfl))) pss_nil)
      (pss_one (ps_fld (pv 0) (pv 1) rfl))), ?_⟩
    walk_at "begin"
    walk_at "if"
    refine x_wNum hn ?_
    walk_at "go"
    refine x_iteB (fun h => ?_) (fun h => ?_)
    · walk_at "go"
      rename_i H1 hO1 hI1
      exact q1 h H1 hO1 hI1
    · walk_at "go"
      exact q2 h
/-! ### a list that is followed -/
theorem TL.off {r : Addr} {H H' : Hp} {C dx : Addr} {fs : List (Str × V)} {p : Addr} {ts : List Tal} (s : Off [r] H H') (hr : H r = some (.ins C dx fs)) (h : TL H p ts) : TL H' p ts := by
  obtain ⟨vs, e, h⟩ := h
  exact ⟨vs, s.lst hr e, h.mono (s.tups hr)⟩
def spFInit (T : Txt K mg) : Sp := fun vs H Q _ => ∃ (r b dx : Addr) (xs : List V), vs = [.ref r, .ref b] ∧ H r = some (.ins T.C_Follow dx []) ∧ SqL K H b xs ∧
  ∀ bl H', H bl = none → Off [r] H H' → H' r = some (.ins T.C_Follow dx [("blocks", .ref bl), ("asked", .int 0)]) → H' bl = some (.lst xs) → Q .non H'
theorem ok_Follow_init (T : Txt K mg) : FO P w K mg base 1 T.a_Follow_init T.fd_Follow_init ["self", "blocks"] (spFInit T) := by
  have sc := sc_Follow_init
  refine T.F_Follow_init.okX sc (fun vs H Q E h => ?_) (fun cdv A outer s H vs Q E hr h => ?_)
  · obtain ⟨_, _, _, _, rfl, _⟩ := h
    rfl
  · obtain ⟨r, b, dx, xs, rfl, hR, hb, q⟩ := h
    refine ⟨_, (pss_cons (ps_fld (pv 0) (pe_callTy ct_list (by rfl) T.b_list bt_list (pa_cons (pv 1) pa_nil)) rfl)
      (pss_one (ps_fld (pv 0) pe_int rfl))), ?_⟩
    walk_at "begin"
    walk_at "go"
    rename_i bl H1 hbl hs1 h1 H2 hO2 hI2 H3 hO3 hI3
    have hne : bl ≠ r := fun z => by rw [z] at hbl; rw [hbl] at hR; cases hR
    exact q bl H3 hbl (((Off.of hs1).trans hO2).trans hO3) hI3 (hO3.at (hO2.at h1 (nin_of hne)) (nin_of hne))
/-! ### rules by a weight, and rules turned -/
/-- what a weight promises, called with a tally -/
def spWt (LA : Hp → Prop) (wt : Tal → Int) : Sp := fun vs H Q _ => ∃ (one : V) (t : Tal) (pages now : Int), vs = [one] ∧ LA H ∧ TalAt H one t ∧ TOk pages now t ∧ PN pages now ∧ ∀ H', Same H H' → Q (.int (wt t)) H'
structure WtOk (P : Program) (w : World) (K : PySem.W.Frag) (mg : Str → Option Value) (base : Heap) (f : Addr) (LA : Hp → Prop) (wt : Tal → Int) : Prop where
  ok : LamOk P w K mg base 3 f (spWt LA wt)
  pin : ∀ H, LA H → ∃ fd, H f = some (PinO f (fnO fd))
  mono : ∀ H H', Same H H' → LA H → LA H'
def spWgInit (T : Txt K mg) : Sp := fun vs H Q _ => ∃ (r dx f : Addr), vs = [.ref r, .ref f] ∧ H r = some (.ins T.C_Weighed dx []) ∧ ∀ H', Off [r] H H' → H' r = some (.ins T.C_Weighed dx [("weigh", .ref f)]) → Q .non H'
theorem ok_Weighed_init (T : Txt K mg) : FO P w K mg base 1 T.a_Weighed_init T.fd_Weighed_init ["self", "weigh"] (spWgInit T) := by
  have sc := sc_Weighed_init
  refine T.F_Weighed_init.okX sc (fun vs H Q E h => ?_) (fun cdv A outer s H vs Q E hr h => ?_)
  · obtain ⟨_, _, _, rfl, _⟩ := h
    rfl
  · obtain ⟨r, dx, f, rfl, hR, q⟩ := h
    refine ⟨_, (pss_one (ps_fld (pv 0) (pv 1) rfl)), ?_⟩
    walk_at "begin"
    walk_at "go"
    rename_i H1 hO1 hI1
    exact q H1 hO1 hI1
def spWgGA (T : Txt K mg) (P : Program) (w : World) (base : Heap) : Sp := fun vs H Q _ => ∃ (r dx f : Addr) (LA : Hp → Prop) (wt : Tal → Int) (one other : V) (t u : Tal) (pages now : Int), vs = [.ref r, one, other, .int pages, .int now] ∧ H r = some (.ins T.C_Weighed dx [("weigh", .ref f)]) ∧ WtOk P w K mg base f LA wt ∧ LA H ∧ TalAt H one t ∧ TalAt H other u ∧ TOk pages now t ∧ TOk pages now u ∧ PN pages now ∧
  ∀ H', Same H H' → Q (.bl (decide (wt t < wt u))) H'
theorem ok_Weighed_goes_ahead (T : Txt K mg) : FO P w K mg base 4 T.a_Weighed_goes_ahead T.fd_Weighed_goes_ahead ["self", "one", "other", "pages", "now"] (spWgGA T P w base) := by
  have sc := sc_Weighed_goes_ahead
  refine T.F_Weighed_goes_ahead.okX sc (fun vs H Q E h => ?_) (fun cdv A outer s H vs Q E hr h => ?_)
  · obtain ⟨_, _, _, _, _, _, _, _, _, _, _, rfl, _⟩ := h
    rfl
  · obtain ⟨r, dx, f, LA, wt, one, other, t, u, pages, now, rfl, hR, hW, hA, h1, h2, o1, o2, hpn, q⟩ := h
    obtain ⟨fd, hp⟩ := hW.pin H hA
    refine ⟨_, (pss_one (ps_ret (pe_cmpR op_uLt (pe_fcall (k := 3) (pv 0) (hr.mono (by decide)) (passAt (takes_of rfl rfl rfl rfl)) (pa_cons (pv 1) pa_nil)) (pe_fcall (k := 3) (pv 0) (hr.mono (by decide)) (passAt (takes_of rfl rfl rfl rfl)) (pa_cons (pv 2) pa_nil)) (nomark _)))), ?_⟩
    walk_at "begin"
    walk_at "go"
    refine x_fc ?_
    walk_at "go"
    refine x_fcK hR rfl hW.ok hp T.cl_Weighed T.na_Weighed_weigh ?_
    walk_at "go"
    refine ⟨hp, ⟨_, rfl⟩, _, t, pages, now, rfl, hA, h1, o1, hpn, fun H1 hs1 => ?_⟩
    have hR1 := hs1 _ _ hR
    have hp1 := hs1 _ _ hp
    have h21 := h2.mono (TupS.of hs1)
    have hA1 := hW.mono _ _ hs1 hA
    walk_at "go"
    refine x_fc ?_
    walk_at "go"
    refine x_fcK hR1 rfl hW.ok hp1 T.cl_Weighed T.na_Weighed_weigh ?_
    walk_at "go"
    refine ⟨hp1, ⟨_, rfl⟩, _, u, pages, now, rfl, hA1, h21, o2, hpn, fun H2 hs2 => ?_⟩
    walk_at "go"
    exact q H2 (hs1.trans hs2)
theorem rob_Weighed (T : Txt K mg) {H : Hp} {r dx f : Addr} {LA : Hp → Prop} {wt : Tal → Int} {la : List Addr} (h : H r = some (.ins T.C_Weighed dx [("weigh", .ref f)])) (hW : WtOk P w K mg base f LA wt) (hA : LA H) (hk : ∀ H1 H2 : Hp, (∀ a ∈ la, ∀ o, H1 a = some o → H2 a = some o) → LA H1 → LA H2) (hl : ∀ a ∈ la, ∃ o, H a = some o ∧ ∀ xs, o ≠ .tup xs) :
    RuleOb P w K mg base 4 (fun _ _ t u => decide (wt t < wt u)) H (r :: la) r := by
  refine ⟨List.mem_cons_self, fun a ha => ?_, T.C_Weighed, dx, _, fun H => H r = some (.ins T.C_Weighed dx [("weigh", .ref f)]) ∧ LA H, h, rfl, rfl, fun H1 H2 k ⟨a, b⟩ => ⟨k _ List.mem_cons_self _ a, hk H1 H2 (fun x hx => k x (List.mem_cons_of_mem _ hx)) b⟩, ⟨h, hA⟩, ?_⟩
  · rcases List.mem_cons.mp ha with z | z
    · rw [z]
      exact ⟨_, h, fun xs z => by cases z⟩
    · exact hl a z
  · exact ⟨⟨_, _, _, T.cl_Weighed, T.m_Weighed_goes_ahead, (ok_Weighed_goes_ahead T).imp fun vs H Q E ⟨one, other, t, u, pages, now, e, ⟨i1, i2⟩, h1, h2, o1, o2, hpn, q⟩ => ⟨r, dx, f, LA, wt, one, other, t, u, pages, now, e, i1, hW, i2, h1, h2, o1, o2, hpn, q⟩, T.bd_Weighed_goes_ahead⟩⟩
theorem RuleOb.up {n m : Nat} {g : Int → Int → Tal → Tal → Bool} {H : Hp} {rf : List Addr} {r : Addr} (h : RuleOb P w K mg base n g H rf r) (k : n ≤ m) : RuleOb P w K mg base m g H rf r := by
  obtain ⟨a, b, C, dx, fs, I, e, l1, l2, st, i, f, fd, ps, c1, c2, c3, c4⟩ := h
  exact ⟨a, b, C, dx, fs, I, e, l1, l2, st, i, ⟨⟨f, fd, ps, c1, c2, c3.mono k, c4⟩⟩⟩
def spTnInit (T : Txt K mg) : Sp := fun vs H Q _ => ∃ (r dx f : Addr), vs = [.ref r, .ref f] ∧ H r = some (.ins T.C_Turned dx []) ∧ ∀ H', Off [r] H H' → H' r = some (.ins T.C_Turned dx [("rule", .ref f)]) → Q .non H'
theorem ok_Turned_init (T : Txt K mg) : FO P w K mg base 1 T.a_Turned_init T.fd_Turned_init ["self", "rule"] (spTnInit T) := by
  have sc := sc_Turned_init
  refine T.F_Turned_init.okX sc (fun vs H Q E h => ?_) (fun cdv A outer s H vs Q E hr h => ?_)
  · obtain ⟨_, _, _, rfl, _⟩ := h
    rfl
  · obtain ⟨r, dx, f, rfl, hR, q⟩ := h
    refine ⟨_, (pss_one (ps_fld (pv 0) (pv 1) rfl)), ?_⟩
    walk_at "begin"
    walk_at "go"
    rename_i H1 hO1 hI1
    exact q H1 hO1 hI1
def spTnGA (T : Txt K mg) (P : Program) (w : World) (base : Heap) (kk : Nat) : Sp := fun vs H Q _ => ∃ (r dx r1 : Addr) (rf1 : List Addr) (g : Int → Int → Tal → Tal → Bool) (one other : V) (t u : Tal) (pages now : Int), vs = [.ref r, one, other, .int pages, .int now] ∧ H r = some (.ins T.C_Turned dx [("rule", .ref r1)]) ∧ RuleOb P w K mg base kk g H rf1 r1 ∧ TalAt H one t ∧ TalAt H other u ∧ TOk pages now t ∧ TOk pages now u ∧ PN pages now ∧
  ∀ H', Same H H' → Q (.bl (g pages now u t)) H'
theorem ok_Turned_goes_ahead (T : Txt K mg) {kk : Nat} : FO P w K mg base (kk + 1) T.a_Turned_goes_ahead T.fd_Turned_goes_ahead ["self", "one", "other", "pages", "now"] (spTnGA T P w base kk) := by
  have sc := sc_Turned_goes_ahead
  refine T.F_Turned_goes_ahead.okX sc (fun vs H Q E h => ?_) (fun cdv A outer s H vs Q E hr h => ?_)
  · obtain ⟨_, _, _, _, _, _, _, _, _, _, _, rfl, _⟩ := h
    rfl
  · obtain ⟨r, dx, r1, rf1, g, one, other, t, u, pages, now, rfl, hR, hB, h1, h2, o1, o2, hpn, q⟩ := h
    obtain ⟨_, _, C, dx1, fs, I, hC, hl1, _, _, hI, hM⟩ := hB
    refine ⟨_, (pss_one (ps_ret (pe_methD (k := kk) (pe_fld (pv 0) rfl) (hr.mono (Nat.le_refl _)) (passAt (takes_of rfl rfl rfl rfl)) (pa_cons (pv 2) (pa_cons (pv 1) (pa_cons (pv 3) (pa_cons (pv 4) pa_nil))))))), ?_⟩
    walk_at "begin"
    walk_at "go"
    refine x_mtK hC hM hl1 ?_
    walk_at "go"
    refine ⟨_, _, u, t, pages, now, rfl, hI, h2, h1, o2, o1, hpn, fun H3 hs3 => ?_⟩
    walk_at "go"
    exact q H3 hs3
theorem rob_Turned (T : Txt K mg) {H : Hp} {r dx r1 : Addr} {rf1 : List Addr} {g : Int → Int → Tal → Tal → Bool} {kk : Nat} (h : H r = some (.ins T.C_Turned dx [("rule", .ref r1)])) (hB : RuleOb P w K mg base kk g H rf1 r1) :
    RuleOb P w K mg base (kk + 1) (fun pages now t u => g pages now u t) H (r :: rf1) r := by
  refine ⟨List.mem_cons_self, fun a ha => ?_, T.C_Turned, dx, _, fun H => H r = some (.ins T.C_Turned dx [("rule", .ref r1)]) ∧ RuleOb P w K mg base kk g H rf1 r1, h, rfl, rfl, fun H1 H2 k ⟨a, b⟩ => ⟨k _ List.mem_cons_self _ a, b.keep fun x hx => k x (List.mem_cons_of_mem _ hx)⟩, ⟨h, hB⟩, ?_⟩
  · rcases List.mem_cons.mp ha with z | z
    · rw [z]
      exact ⟨_, h, fun xs z => by cases z⟩
    · exact hB.2.1 a z
  · exact ⟨⟨_, _, _, T.cl_Turned, T.m_Turned_goes_ahead, (ok_Turned_goes_ahead T).imp fun vs H Q E ⟨one, other, t, u, pages, now, e, ⟨i1, i2⟩, h1, h2, o1, o2, hpn, q⟩ => ⟨r, dx, r1, rf1, g, one, other, t, u, pages, now, e, i1, i2, h1, h2, o1, o2, hpn, q⟩, T.bd_Turned_goes_ahead⟩⟩
/-! the law's ranks -/
def mn (p : Int) : Nat → Int
  | 0 => 1
  | k + 1 => mn p k * (p + (k : Nat))
theorem mn_pos {p : Int} (hp : 1 ≤ p) : ∀ k, 0 < mn p k
  | 0 => show (0 : Int) < 1 by decide
  | k + 1 => Int.mul_pos (mn_pos hp k) (by omega)
theorem mn_dvd {p : Int} : ∀ (k i : Nat), i < k → (p + (i : Nat)) ∣ mn p k
  | 0, i, h => absurd h (by omega)
  | k + 1, i, h => by
    by_cases e : i = k
    · subst e; exact Int.dvd_mul_left _ _
    · exact Int.dvd_trans (mn_dvd k i (by omega)) (Int.dvd_mul_right _ _)
theorem mn_bd {p : Int} (hp : 1 ≤ p) (hp2 : p ≤ 16) : ∀ k, k ≤ 17 → mn p k ≤ 64 ^ k
  | 0, _ => show (1 : Int) ≤ 64 ^ 0 by decide
  | k + 1, h => by
    have h1 := mn_bd hp hp2 k (by omega)
    have h2 := mn_pos hp k
    show mn p k * (p + (k : Nat)) ≤ 64 ^ (k + 1)
    rw [Int.pow_succ]
    exact Int.mul_le_mul h1 (by omega) (by omega) (Int.le_of_lt (Int.pow_pos (by decide)))
def rkW (pages now : Int) (t : Tal) : Int := 0 - (pages - t.l) * (now - t.o) * (mn pages (pages + 1).toNat / (pages + t.l))
theorem rkW_lt {pages now : Int} (hp : 1 ≤ pages) {t u : Tal} (ht : 0 ≤ t.l ∧ t.l ≤ pages) (hu : 0 ≤ u.l ∧ u.l ≤ pages) : decide (rkW pages now t < rkW pages now u) = gW pages now t u := by
  unfold rkW gW
  obtain ⟨a, ha⟩ := mn_dvd (p := pages) (pages + 1).toNat t.l.toNat (by omega)
  obtain ⟨b, hb⟩ := mn_dvd (p := pages) (pages + 1).toNat u.l.toNat (by omega)
  rw [show ((t.l.toNat : Nat) : Int) = t.l by omega] at ha
  rw [show ((u.l.toNat : Nat) : Int) = u.l by omega] at hb
  have hm := mn_pos hp (pages + 1).toNat
  generalize mn pages (pages + 1).toNat = M at ha hb hm
  have h1 : 0 < pages + t.l := by omega
  have h2 : 0 < pages + u.l := by omega
  have ea : M / (pages + t.l) = a := by rw [ha]; exact Int.mul_ediv_cancel_left _ (by omega)
  have eb : M / (pages + u.l) = b := by rw [hb]; exact Int.mul_ediv_cancel_left _ (by omega)
  rw [ea, eb]
  generalize (pages - t.l) * (now - t.o) = x
  generalize (pages - u.l) * (now - u.o) = y
  generalize pages + t.l = c at ha h1 ⊢
  generalize pages + u.l = d at hb h2 ⊢
  have e : c * a = d * b := by omega
  have ha0 : 0 < a := by
    rcases Int.lt_or_le 0 a with h | h
    · exact h
    · have := Int.mul_nonpos_of_nonneg_of_nonpos (Int.le_of_lt h1) h
      omega
  have hb0 : 0 < b := by
    rcases Int.lt_or_le 0 b with h | h
    · exact h
    · have := Int.mul_nonpos_of_nonneg_of_nonpos (Int.le_of_lt h2) h
      omega
  refine decide_eq_decide.mpr ⟨fun h => ?_, fun h => ?_⟩
  · -- x a > y b
    have h3 : y * b < x * a := by omega
    rcases Int.lt_or_le (y * c) (x * d) with h4 | h4
    · exact h4
    · exfalso
      -- x d ≤ y c ; multiply: x a (c d) ..
      have h5 := Int.mul_lt_mul_of_pos_right h3 h1
      have h6 := Int.mul_le_mul_of_nonneg_right h4 (Int.le_of_lt hb0)
      have e1 : x * a * c = x * d * b := by rw [Int.mul_assoc, Int.mul_comm a c, e, Int.mul_assoc]
      have e2 : y * b * c = y * c * b := by rw [Int.mul_assoc, Int.mul_comm b c, Int.mul_assoc]
      omega
  · have h3 := Int.mul_lt_mul_of_pos_right h hb0
    have e1 : x * d * b = x * a * c := by rw [Int.mul_assoc, ← e, Int.mul_comm c a, Int.mul_assoc]
    have e2 : y * c * b = y * b * c := by rw [Int.mul_assoc, Int.mul_comm c b, Int.mul_assoc]
    rw [e1, e2] at h3
    have := Int.lt_of_mul_lt_mul_right h3 (Int.le_of_lt h1)
    omega
theorem pickL_congr {f g : Tal → Tal → Bool} {A : Tal → Prop} (h : ∀ t u, A t → A u → f t u = g t u) : ∀ (ts : List Tal) (b : Tal), A b → (∀ t ∈ ts, A t) → pickL f b ts = pickL g b ts
  | [], _, _, _ => rfl
  | t :: ts, b, hb, hts => by
    have ht := hts t List.mem_cons_self
    show pickL f (if f t b = true then t else b) ts = pickL g (if g t b = true then t else b) ts
    rw [h t b ht hb]
    refine pickL_congr h ts _ ?_ fun x hx => hts x (List.mem_cons_of_mem _ hx)
    split
    · exact ht
    · exact hb
theorem pick_congr {f g : Tal → Tal → Bool} {A : Tal → Prop} (h : ∀ t u, A t → A u → f t u = g t u) : ∀ (ts : List Tal), (∀ t ∈ ts, A t) → pick f ts = pick g ts
  | [], _ => rfl
  | t :: ts, hts => pickL_congr h ts t (hts t List.mem_cons_self) fun x hx => hts x (List.mem_cons_of_mem _ hx)
/-! ### a def that hands out a lambda: what it captured is new -/
section
open PySem PySem.Spec PyProof.Rows L2 LamX
def CapNew (H : Hp) : Cap → Prop
  | none => True
  | some (_, c, _) => H c = none
theorem x_lamK {P : Addr} {T : List (Addr × Str)} {q : Str} {params : Arguments} {body : Expr} {scope : Scope} {cl : List (Str × Addr)} {σ : L2.St} {H : Hp} {Q : VK} (hT : Tabs T H) (h : LamMade P T q params body scope cl H Q) : tLamK P T q params body scope cl σ H Q := ⟨hT, h⟩
theorem okC2 {P : Program} {w : World} {K : PySem.W.Frag} {mg : Str → Option Value} {base : Heap} {x qual : Str} {st : Stmt} {f : Addr} {fd : FuncData} {N ps : List Str} {k : Nat} {sp : Sp} (F : Fun K x qual st f fd) (S : FnScope N ps (defScope st)) (len : ∀ vs H Q E, sp vs H Q E → vs.length = ps.length)
    (hbody : ∀ (A : Around) (outer : List Env) (s : Shared) (H : Hp) (vs : List V) (Q : VK) (E : XK), Room k (A.deeper (envOfC qual (defScope st) s.heap.objs.size f fd.code)) → sp vs H Q E →
      ∃ t, PSCs (cxOf (L2.CX P w) P w K mg base N qual (defScope st) f fd.code A outer s H E) (defBody st) t ∧
        t { nx := fun _ H' => Q .non H', rt := fun v σ' H' => ∃ cap, CapX (cxOf (L2.CX P w) P w K mg base N qual (defScope st) f fd.code A outer s H E) σ' cap ∧ (CapNew H' cap → Q v (trkH H' cap)) } (L2.start N vs) H) : FnOk P w K mg base (L2.CX P w) (k + 1) f fd ps sp := by
  obtain ⟨oc, od, kV, doc, pm, an, cdv, ct, osl, rfl, lk, hcd⟩ := F.ex
  refine ⟨len, fun A outer s H args us vs Q E hr e0 hb r hsp => ?_⟩
  have hl := len _ _ _ _ hsp
  have KX : K.In s.heap := e0.mod.kin.keeps fun b o e => (e0.bs b o e).1
  have lim : s.heap.NoLimit := e0.mod.nolimit.keeps fun b o e => (e0.bs b o e).1
  have hkind : ∀ y ∈ ps.zip us, (defScope st).names.lookup y.1 = some .local ∨ ((defScope st).names.lookup y.1 = some .cell ∧ ((cellsFrom (s.heap.objs.size + 1) (defScope st).names []).lookup y.1).isSome = true) := fun ⟨n, v⟩ hy => by
    rcases S.par n (List.of_mem_zip hy).1 with q | q
    · exact .inl q
    · exact .inr ⟨q, PySem.W.cellsFrom_some _ _ _ (.inl q)⟩
  refine codeAny_call_function hr.depth (KX _ _ lk) rfl S.co S.gen rfl (PySem.W.codeRec_of KX hcd) (hb _ _ _ _ ?_)
  refine wpAny_newFunctionEnv_cells S.kind hkind fun env he s1 y => ?_
  subst he
  refine ⟨lim.keeps y.toInCall.keep, codeAny_func ?_⟩
  obtain ⟨t, ht, hq⟩ := hbody A outer s H vs Q E (hr.deeper _) hsp
  have I := inv_start (CX := L2.CX P w) (E := E) S hr.hd e0 hl r y
  refine wpAny_mono (ht.run [] s1 (L2.start N vs) H _ I hq) (fun fl s' hs => ?_) fun e s' hs => hs
  cases fl with
  | next =>
    obtain ⟨σ', H', J, q⟩ := hs
    exact ⟨V.non, H', J.os, J.bare, J.base, J.hok, rfl, q⟩
  | brk => exact False.elim hs
  | cont => exact False.elim hs
  | ret u =>
    obtain ⟨v, σ', H', J, rv, cap, hcap, q⟩ := hs
    cases cap with
    | none => exact ⟨v, H', J.os, J.bare, J.base, J.hok, rv, q trivial⟩
    | some c3 =>
      obtain ⟨y, c, z⟩ := c3
      obtain ⟨k1, k2, i, k3, k4⟩ := hcap
      have nc : H' c = none := J.freeC y c k2
      have hge : s.heap.objs.size ≤ c := J.ok.cab y c rfl k2
      have keep : ∀ {b : Addr} {o : HO}, H' b = some o → upd H' c (CellO c z) b = some o := fun e => by
        rw [upd_ne (ne_of_none e nc)]
        exact e
      obtain ⟨m, hm, hlc⟩ := J.loc
      obtain ⟨u', ru, look⟩ := hlc i y z k3 k4 (.inr (.inl k1))
      have hcell : s'.heap.IsCell c (some u') := by
        rcases look with ⟨l1, _⟩ | ⟨_, c2, l2, l3⟩
        · have l1 : (defScope st).names.lookup y = some .local := l1
          have k1 : (defScope st).names.lookup y = some .cell := k1
          rw [k1] at l1
          cases l1
        · rw [k2] at l2
          cases l2
          exact l3
      refine ⟨v, upd H' c (CellO c z), J.os, J.bare, ⟨J.base.keep, J.base.slot, fun b o e n hq => ?_, J.base.there, fun b xs e => keep (J.base.tups b xs e), fun b o u e => keep (J.base.frzs b o u e), fun b ps e => ?_⟩, J.hok.laidN (fun _ _ e => e) nc (cellO_ok ru hcell), rv, q nc⟩
      · have hb : b ≠ c := fun z => Nat.lt_irrefl _ (Nat.lt_of_lt_of_le (by rw [← z]; exact Heap.lt_size e) hge)
        rw [upd_ne hb]
        exact J.base.free b o e n hq
      · obtain ⟨more, e2⟩ := J.base.tbls b ps e
        exact ⟨more, keep e2⟩
end
--#CUT
/-! ### comprehensions whose turns change something; a comprehension over a zip -/
section
open PySem L2 Kit
variable {K : PySem.W.Frag} {σ : L2.St} {H : Hp} {g : TG} {tt : TT} {te tl : TE} {vs : List Nat} {a b : Addr} {Q : VK} {xs ys : List V} {ta : TA}
/-- a turn that may change what stands at S -/
def LcTurnO (S : List Addr) (g : TG) (tt : TT) (te : TE) (vs : List Nat) (σ : L2.St) (A : Nat → List V → Hp → Prop) (i : Nat) (x : V) (acc : List V) (H' : Hp) : Prop :=
  ∀ (NY : VK) (NN : Hp → Prop), (∀ y H4, Off S H' H4 → A (i + 1) (acc ++ [y]) H4 → NY y H4) → (∀ H3, Off S H' H3 → A (i + 1) acc H3 → NN H3) →
    g x (wipe σ vs) H' fun σ2 H2 => wipe σ2 vs = wipe σ vs ∧ tt σ2 H2 fun b H3 => if b = true then te σ2 H3 NY else NN H3
theorem x_lcLO (S : List Addr) (hS : ∀ b ∈ S, H b ≠ none) (hq : H a = some (.lst xs)) (ha : a ∉ S) (A : Addr → Nat → List V → Hp → Prop)
    (hA : ∀ Dr i acc acc0 acc1 H, H Dr = some (.lst acc0) → A Dr i acc H → A Dr i acc (upd H Dr (.lst acc1))) (hn : xs.length < sizeLine) (h0 : ∀ Dr, H Dr = none → A Dr 0 [] (upd H Dr (.lst [])))
    (hs : ∀ Dr i x acc H', xs[i]? = some x → H Dr = none → H' Dr = some (.lst acc) → Off S H H' → A Dr i acc H' → LcTurnO S g tt te vs σ (A Dr) i x acc H')
    (hd : ∀ p acc H', H p = none → Off S H H' → H' p = some (.lst acc) → A p xs.length acc H' → Q (.ref p) H') : lcL K g tt te vs σ Q (.ref a) H := by
  refine ⟨a, rfl, ⟨_, SqL.of hq⟩, fun Dr hD => ?_⟩
  have hDS : Dr ∉ S := fun m => hS Dr m hD
  refine lc_list (K := K) (a := a) (xs := xs) (fun i H' => ∃ acc, H' Dr = some (.lst acc) ∧ acc.length ≤ i ∧ Off S H H' ∧ A Dr i acc H') ⟨[], upd_same, Nat.le_refl _, Off.of (same_upd hD), h0 Dr hD⟩ (fun i H' _ ⟨_, _, _, s, _⟩ => SqL.of (s _ _ ha hq)) ?_ ?_
  · rintro i x H' hx ⟨acc, h1, h2, h3, h4⟩
    have hi := (List.getElem?_eq_some_iff.mp hx).1
    refine hs Dr i x acc H' hx hD h1 h3 h4 _ _ (fun y H4 s4 a4 => ?_) (fun H3 s3 a3 => ⟨acc, s3 _ _ hDS h1, Nat.le_succ_of_le h2, h3.trans s3, a3⟩)
    have e4 := s4 _ _ hDS h1
    refine ⟨acc, e4, by omega, acc ++ [y], upd_same, by rw [List.length_append]; exact Nat.add_le_add h2 (Nat.le_refl _), fun b o nb e => ?_, hA _ _ _ _ _ _ e4 a4⟩
    rw [upd_ne (ne_of_none e hD)]
    exact s4 _ _ nb (h3 _ _ nb e)
  · rintro H' ⟨acc, h1, h2, h3, h4⟩
    exact hd Dr acc H' hD h3 h1 h4
def lcZ (K : PySem.W.Frag) (g : TG) (tt : TT) (te : TE) (vs : List Nat) (σ : L2.St) (Q : VK) : List V → Hp → Prop := fun ws H1 => ∃ a b xs ys, ws = [.ref a, .ref b] ∧ SqL K H1 a xs ∧ SqL K H1 b ys ∧ lcK (Itz K a b) g tt te vs σ Q H1
theorem x_lcZ (h : ta σ H (lcZ K g tt te vs σ Q)) : tLc (iZip K ta) g tt te vs σ H Q := h
theorem x_lcZK (hq : SqL K H a xs) (hq2 : SqL K H b ys) (hxy : xs.length = ys.length) (A : Nat → List V → Hp → Prop) (hA : ∀ i acc H H', TupS H H' → A i acc H → A i acc H') (hn : xs.length < sizeLine) (h0 : A 0 [] H)
    (hs : ∀ i x y t acc H', xs[i]? = some x → ys[i]? = some y → Same H H' → H' t = some (.tup [x, y]) → A i acc H' → LcTurn g tt te vs σ A i (.ref t) acc H')
    (hd : ∀ p acc H', H p = none → Same H H' → H' p = some (.lst acc) → A xs.length acc H' → Q (.ref p) H') : lcZ K g tt te vs σ Q [.ref a, .ref b] H := by
  refine ⟨a, b, xs, ys, rfl, hq, hq2, fun Dr hD => ?_⟩
  refine lc_it (walk_zip (K := K) (a := a) (b := b) (xs := xs) (ys := ys) (n := xs.length) (by omega)) (fun i H' => ∃ acc, H' Dr = some (.lst acc) ∧ acc.length ≤ i ∧ Same H H' ∧ A i acc H') ⟨[], upd_same, Nat.le_refl _, same_upd hD, hA _ _ _ _ (TupS.of (same_upd hD)) h0⟩ (fun i H' _ ⟨_, _, _, s, _⟩ => ⟨s.seq hq, s.seq hq2⟩) ?_ ?_
  · rintro i x H' H'' hi ⟨acc, h1, h2, h3, h4⟩ hy
    obtain ⟨t, u, v, rfl, ht, rfl, e1, e2⟩ := hy
    have st : Same H' (upd H' t (.tup [u, v])) := same_upd ht
    refine hs i u v t acc _ e1 e2 (h3.trans st) upd_same (hA _ _ _ _ (TupS.of st) h4) _ _ (fun y H4 s4 a4 => ?_) (fun H3 s3 a3 => ⟨acc, s3 _ _ (st _ _ h1), Nat.le_succ_of_le h2, (h3.trans st).trans s3, a3⟩)
    have e4 := s4 _ _ (st _ _ h1)
    refine ⟨acc, e4, by omega, acc ++ [y], upd_same, by rw [List.length_append]; exact Nat.add_le_add h2 (Nat.le_refl _), fun b o e => ?_, hA _ _ _ _ (TupS.upd e4 (fun _ z => by cases z)) a4⟩
    rw [upd_ne (ne_of_none e hD)]
    exact s4 _ _ (st _ _ (h3 _ _ e))
  · rintro H' ⟨acc, h1, h2, h3, h4⟩
    exact hd Dr acc H' hD h3 h1 h4
end
local macro_rules | `(tactic| walk_at "u") => `(tactic| with_reducible refine x_lcZ ?_)
/-! ### `<` of lists of whole numbers -/
section
open PySem PySem.Spec PyProof.Rows L2 Kit
/-- one row ahead of another in the order of lists -/
def lexI : List Int → List Int → Bool
  | [], [] => false
  | [], _ :: _ => true
  | _ :: _, [] => false
  | x :: xs, y :: ys => if x = y then lexI xs ys else decide (x < y)
theorem lex_toks : ∀ (xs ys : List Int), PyProof.Rows.lexLt itemOrd (PySem.W.keyToksAll (xs.map PyData.int)) (PySem.W.keyToksAll (ys.map PyData.int)) = lexI xs ys
  | [], [] => rfl
  | [], _ :: _ => rfl
  | _ :: _, [] => rfl
  | x :: xs, y :: ys => by
    rw [List.map_cons, List.map_cons]
    show _ = if x = y then lexI xs ys else decide (x < y)
    by_cases h : x = y
    · subst h
      rw [if_pos rfl, PySem.W.dataLt_all_yes rfl (PySem.W.eqv_refl_alike _ rfl)]
      exact lex_toks xs ys
    · rw [if_neg h, PySem.W.dataLt_all_no rfl (by
        show PyData.eqv (.int x) (.int y) = false
        cases e : PyData.eqv (.int x) (.int y) with
        | false => rfl
        | true => exact absurd (by simpa [PyData.eqv] using e) h), PySem.W.dataLt_int]
def intsD (ns : List Int) : PyData := .list (ns.map PyData.int)
theorem lt_intsD (ns ms : List Int) : PySem.W.dataLt (intsD ns) (intsD ms) = lexI ns ms := by
  unfold intsD
  rw [PySem.W.dataLt_list, lex_toks]
theorem alike_ints : ∀ (ns ms : List Int), PySem.W.alikeAll (ns.map PyData.int) (ms.map PyData.int) = true
  | [], _ => by cases ‹List Int› <;> rfl
  | _ :: _, [] => rfl
  | x :: xs, y :: ys => by
    show (PySem.W.alike (.int x) (.int y) && PySem.W.alikeAll (xs.map PyData.int) (ys.map PyData.int)) = true
    rw [alike_ints xs ys]
    rfl
def rLtL (K : PySem.W.Frag) : R2 := fun x y H Q => ∃ a b ns ms, x = .ref a ∧ y = .ref b ∧ SqL K H a (ns.map V.int) ∧ SqL K H b (ms.map V.int) ∧ Q (.bl (lexI ns ms)) H
theorem depth_ints (ns : List Int) : (intsD ns).depth ≤ 2 := by
  have h : ∀ l : List Int, PyData.depthAll (l.map PyData.int) ≤ 1 := fun l => by
    induction l with
    | nil => exact Nat.zero_le _
    | cons x l ih =>
      rw [List.map_cons]
      show max (PyData.depth (.int x)) (PyData.depthAll (l.map PyData.int)) ≤ 1
      exact Nat.max_le.mpr ⟨(show PyData.depth (.int x) ≤ 1 by unfold PyData.depth; omega), ih⟩
  have := h ns
  show PyData.depthAll (ns.map PyData.int) + 1 ≤ 2
  omega
theorem op_ltL {X : Cx} (hu : X.A.units + 64 < cLine) : OpR X (compareOp .Lt) (rLtL X.K) := by
  intro pins s σ H x y v u Q I rx ry h
  obtain ⟨a, b, ns, ms, rfl, rfl, ha, hb, q⟩ := h
  obtain ⟨as, r1⟩ := Dp.reads I (intsD ns) (.ref a) v (.lst ha dpInts) rx
  obtain ⟨bs, r2⟩ := Dp.reads I (intsD ms) (.ref b) u (.lst hb dpInts) ry
  have d1 := depth_ints ns
  refine PySem.W.lt_data r1 r2 (alike_ints ns ms) (fun z => by cases z) (by omega) ?_
  rw [lt_intsD]
  exact ⟨.bl _, H, I, rfl, q⟩
theorem lexI_ref : ∀ xs : List Int, lexI xs xs = false
  | [] => rfl
  | x :: xs => by
    show (if x = x then lexI xs xs else decide (x < x)) = false
    rw [if_pos rfl]
    exact lexI_ref xs
/-- not ahead, and not ahead: not ahead -/
theorem lexI_tr : ∀ {xs ys zs : List Int}, lexI ys xs = false → lexI zs ys = false → lexI zs xs = false
  | [], _, [], _, _ => rfl
  | [], ys, z :: zs, _, _ => rfl
  | x :: xs, [], zs, h, _ => by cases h
  | x :: xs, y :: ys, [], _, h => by cases h
  | x :: xs, y :: ys, z :: zs, h1, h2 => by
    have h1 : (if y = x then lexI ys xs else decide (y < x)) = false := h1
    have h2 : (if z = y then lexI zs ys else decide (z < y)) = false := h2
    show (if z = x then lexI zs xs else decide (z < x)) = false
    by_cases a : y = x
    · subst a
      rw [if_pos rfl] at h1
      by_cases b : z = y
      · rw [if_pos b] at h2 ⊢
        exact lexI_tr h1 h2
      · rw [if_neg b] at h2 ⊢
        exact h2
    · rw [if_neg a] at h1
      have h1 := of_decide_eq_false h1
      by_cases b : z = y
      · rw [if_neg (by omega)]
        exact decide_eq_false (by omega)
      · rw [if_neg b] at h2
        have h2 := of_decide_eq_false h2
        rw [if_neg (by omega)]
        exact decide_eq_false (by omega)
theorem lexI_as : ∀ {xs ys : List Int}, lexI xs ys = true → lexI ys xs = false
  | [], [], h => by cases h
  | [], _ :: _, _ => rfl
  | _ :: _, [], h => by cases h
  | x :: xs, y :: ys, h => by
    have h : (if x = y then lexI xs ys else decide (x < y)) = true := h
    show (if y = x then lexI ys xs else decide (y < x)) = false
    by_cases a : x = y
    · rw [if_pos a] at h
      rw [if_pos a.symm]
      exact lexI_as h
    · rw [if_neg a] at h
      have h := of_decide_eq_true h
      rw [if_neg (fun z => a z.symm)]
      exact decide_eq_false (by omega)
theorem argL_min (key : Nat → List Int) : ∀ m j, j ≤ m → lexI (key j) (key (argBest (fun i j => lexI (key i) (key j)) m)) = false
  | 0, j, h => by
    obtain rfl : j = 0 := by omega
    exact lexI_ref _
  | m + 1, j, h => by
    have ih := argL_min key m
    show lexI (key j) (key (if lexI (key (m + 1)) (key (argBest _ m)) = true then m + 1 else argBest _ m)) = false
    generalize argBest (fun i j => lexI (key i) (key j)) m = b at ih ⊢
    by_cases hc : lexI (key (m + 1)) (key b) = true
    · rw [if_pos hc]
      by_cases hj : j = m + 1
      · subst hj
        exact lexI_ref _
      · exact lexI_tr (lexI_as hc) (ih j (by omega))
    · rw [if_neg hc]
      by_cases hj : j = m + 1
      · subst hj
        simpa using hc
      · exact ih j (by omega)
/-- min of a list of lists of whole numbers -/
def rMinL (K : PySem.W.Frag) : List V → Hp → VK → Prop := fun vs H Q => ∃ (a : Addr) (xs : List V) (k : V → List Int), vs = [V.ref a] ∧ SqL K H a xs ∧ xs ≠ [] ∧ (∀ x ∈ xs, ∃ t, x = V.ref t ∧ SqL K H t ((k x).map V.int)) ∧ ∀ x ∈ xs, (∀ y ∈ xs, lexI (k y) (k x) = false) → Q x H
theorem cr_minL {X : Cx} (hu : X.A.units + 64 < cLine) (hc : X.calm = true) : CallR X (.builtin "min") (rMinL X.K) := by
  intro pins s σ H vs us Q I r h
  obtain ⟨a, xs, k, rfl, hs, hne, hk, q⟩ := h
  obtain ⟨its, rv, hl, hz⟩ := I.list hs
  rw [Vals.ref1 r]
  have hlen := rv.length
  have hpos : 0 < its.length := by
    rw [← hlen]
    exact List.length_pos_iff.mpr hne
  have at_ : ∀ (i : Nat) v, its[i]? = some v → ∃ x, xs[i]? = some x ∧ RelV x v ∧ ∃ t, x = V.ref t ∧ SqL X.K H t ((k x).map V.int) := fun i v e => by
    have hi := (List.getElem?_eq_some_iff.mp e).1
    obtain ⟨x, ex⟩ : ∃ x, xs[i]? = some x := ⟨_, List.getElem?_eq_getElem (by omega)⟩
    obtain ⟨w, ew, rw'⟩ := rv.get ex
    rw [e] at ew
    cases ew
    exact ⟨x, ex, rw', hk x (List.mem_of_getElem? ex)⟩
  refine min_listH (fun i j => lexI (k (xs.getD i .non)) (k (xs.getD j .non))) (I.ok.hd hc) hl.isList (by simpa using hpos) (fun t i j x y Q' E' kp hx hy h => ?_) fun v h' tk hv kp => ?_
  · obtain ⟨x1, e1, r1, t1, rfl, ht1⟩ := at_ i x (by simpa using hx)
    obtain ⟨x2, e2, r2, t2, rfl, ht2⟩ := at_ j y (by simpa using hy)
    have I2 := I.kept (t' := t.toks) (h' := t.heap) kp
    obtain ⟨as, q1⟩ := Dp.reads I (intsD (k (.ref t1))) (.ref t1) x (.lst ht1 dpInts) r1
    obtain ⟨bs, q2⟩ := Dp.reads I (intsD (k (.ref t2))) (.ref t2) y (.lst ht2 dpInts) r2
    have d1 := depth_ints (k (.ref t1))
    have hu1 : X.A.in1.units ≤ X.A.units + 1 := by first | exact Nat.le_refl _ | exact Nat.le_add_right _ _ | exact Nat.add_le_add_left (by decide) _
    refine PySem.W.lt_data (Reads.keeps kp q1) (Reads.keeps kp q2) (alike_ints _ _) (fun z => by cases z) (by omega) ?_
    rw [lt_intsD]
    rw [List.getD_eq_getElem?_getD, List.getD_eq_getElem?_getD, e1, e2] at h
    exact h
  · obtain ⟨B, hB⟩ : ∃ B, argBest (fun i j => lexI (k (xs.getD i .non)) (k (xs.getD j .non))) (its.toArray.size - 1) = B := ⟨_, rfl⟩
    rw [hB] at hv
    obtain ⟨x, e1, r1, _⟩ := at_ B v (by simpa using hv)
    refine ⟨x, H, I.kept kp, r1, q x (List.mem_of_getElem? e1) fun y hy => ?_⟩
    obtain ⟨j, ej⟩ := List.mem_iff_getElem?.mp hy
    have hj := (List.getElem?_eq_some_iff.mp ej).1
    have hm : lexI (k (xs.getD j .non)) (k (xs.getD B .non)) = false := by
      rw [← hB]
      exact argL_min (fun i => k (xs.getD i .non)) (its.toArray.size - 1) j (by rw [List.size_toArray]; omega)
    rw [List.getD_eq_getElem?_getD, List.getD_eq_getElem?_getD, e1, ej] at hm
    exact hm
theorem argL_max (key : Nat → List Int) : ∀ m j, j ≤ m → lexI (key (argBest (fun i j => lexI (key j) (key i)) m)) (key j) = false
  | 0, j, h => by
    obtain rfl : j = 0 := by omega
    exact lexI_ref _
  | m + 1, j, h => by
    have ih := argL_max key m
    show lexI (key (if lexI (key (argBest _ m)) (key (m + 1)) = true then m + 1 else argBest _ m)) (key j) = false
    generalize argBest (fun i j => lexI (key j) (key i)) m = b at ih ⊢
    by_cases hc : lexI (key b) (key (m + 1)) = true
    · rw [if_pos hc]
      by_cases hj : j = m + 1
      · subst hj
        exact lexI_ref _
      · exact lexI_tr (ih j (by omega)) (lexI_as hc)
    · rw [if_neg hc]
      by_cases hj : j = m + 1
      · subst hj
        simpa using hc
      · exact ih j (by omega)
/-- max of a list of lists of whole numbers -/
def rMaxL (K : PySem.W.Frag) : List V → Hp → VK → Prop := fun vs H Q => ∃ (a : Addr) (xs : List V) (k : V → List Int), vs = [V.ref a] ∧ SqL K H a xs ∧ xs ≠ [] ∧ (∀ x ∈ xs, ∃ t, x = V.ref t ∧ SqL K H t ((k x).map V.int)) ∧ ∀ x ∈ xs, (∀ y ∈ xs, lexI (k x) (k y) = false) → Q x H
theorem cr_maxL {X : Cx} (hu : X.A.units + 64 < cLine) (hc : X.calm = true) : CallR X (.builtin "max") (rMaxL X.K) := by
  intro pins s σ H vs us Q I r h
  obtain ⟨a, xs, k, rfl, hs, hne, hk, q⟩ := h
  obtain ⟨its, rv, hl, hz⟩ := I.list hs
  rw [Vals.ref1 r]
  have hlen := rv.length
  have hpos : 0 < its.length := by
    rw [← hlen]
    exact List.length_pos_iff.mpr hne
  have at_ : ∀ (i : Nat) v, its[i]? = some v → ∃ x, xs[i]? = some x ∧ RelV x v ∧ ∃ t, x = V.ref t ∧ SqL X.K H t ((k x).map V.int) := fun i v e => by
    have hi := (List.getElem?_eq_some_iff.mp e).1
    obtain ⟨x, ex⟩ : ∃ x, xs[i]? = some x := ⟨_, List.getElem?_eq_getElem (by omega)⟩
    obtain ⟨w, ew, rw'⟩ := rv.get ex
    rw [e] at ew
    cases ew
    exact ⟨x, ex, rw', hk x (List.mem_of_getElem? ex)⟩
  refine PySem.call_max_walkH (PySem.W.iter_listW (A := X.A.in1) (I.ok.hd hc) hl.isList fun s₂ e W st hfp hw hkp => ?_)
  refine ⟨_, _, _, _, _, _, _, s.heap, (fun i j => lexI (k (xs.getD j .non)) (k (xs.getD i .non))), rfl, W, st, hfp, by simpa using hpos, hw, hkp, (fun i j x y t Q' E' kp hx hy h => ?_), fun v s' hv m => ?_⟩
  · obtain ⟨x1, e1, r1, t1, rfl, ht1⟩ := at_ i x (by simpa using hx)
    obtain ⟨x2, e2, r2, t2, rfl, ht2⟩ := at_ j y (by simpa using hy)
    obtain ⟨as, q1⟩ := Dp.reads I (intsD (k (.ref t1))) (.ref t1) x (.lst ht1 dpInts) r1
    obtain ⟨bs, q2⟩ := Dp.reads I (intsD (k (.ref t2))) (.ref t2) y (.lst ht2 dpInts) r2
    have d1 := depth_ints (k (.ref t1))
    have hu1 : X.A.in1.units ≤ X.A.units + 1 := by first | exact Nat.le_refl _ | exact Nat.le_add_right _ _ | exact Nat.add_le_add_left (by decide) _
    refine PySem.W.gt_data (Reads.keeps kp q1) (Reads.keeps kp q2) (alike_ints _ _) (fun z => by cases z) (by omega) ?_
    rw [lt_intsD]
    dsimp only at h
    rw [List.getD_eq_getElem?_getD, List.getD_eq_getElem?_getD, e1, e2] at h
    exact h
  · obtain ⟨h', tk, rfl, kp⟩ := PySem.W.moved_old e rfl m
    obtain ⟨B, hB⟩ : ∃ B, argBest (fun i j => lexI (k (xs.getD j .non)) (k (xs.getD i .non))) (its.toArray.size - 1) = B := ⟨_, rfl⟩
    rw [hB] at hv
    obtain ⟨x, e1, r1, _⟩ := at_ B v (by simpa using hv)
    refine ⟨x, H, I.kept kp, r1, q x (List.mem_of_getElem? e1) fun y hy => ?_⟩
    obtain ⟨j, ej⟩ := List.mem_iff_getElem?.mp hy
    have hj := (List.getElem?_eq_some_iff.mp ej).1
    have hm : lexI (k (xs.getD B .non)) (k (xs.getD j .non)) = false := by
      rw [← hB]
      exact argL_max (fun i => k (xs.getD i .non)) (its.toArray.size - 1) j (by rw [List.size_toArray]; omega)
    rw [List.getD_eq_getElem?_getD, List.getD_eq_getElem?_getD, e1, ej] at hm
    exact hm
end
/-! ### `>` of lists, lists of lists of whole numbers -/
section
open PySem PySem.Spec PyProof.Rows L2 Kit
variable {K : PySem.W.Frag} {H : Hp} {Q : VK} {a b : Addr}
def rGtL (K : PySem.W.Frag) : R2 := fun x y H Q => ∃ a b ns ms, x = .ref a ∧ y = .ref b ∧ SqL K H a (ns.map V.int) ∧ SqL K H b (ms.map V.int) ∧ Q (.bl (lexI ms ns)) H
theorem op_gtL {X : Cx} (hu : X.A.units + 64 < cLine) : OpR X (compareOp .Gt) (rGtL X.K) := by
  intro pins s σ H x y v u Q I rx ry h
  obtain ⟨a, b, ns, ms, rfl, rfl, ha, hb, q⟩ := h
  obtain ⟨as, r1⟩ := Dp.reads I (intsD ns) (.ref a) v (.lst ha dpInts) rx
  obtain ⟨bs, r2⟩ := Dp.reads I (intsD ms) (.ref b) u (.lst hb dpInts) ry
  have d1 := depth_ints ns
  refine PySem.W.gt_data r1 r2 (alike_ints ns ms) (fun z => by cases z) (by omega) ?_
  rw [lt_intsD]
  exact ⟨.bl _, H, I, rfl, q⟩
theorem x_ltL {ns ms : List Int} (ha : SqL K H a (ns.map V.int)) (hb : SqL K H b (ms.map V.int)) (q : Q (.bl (lexI ns ms)) H) : rLtL K (.ref a) (.ref b) H Q := ⟨a, b, ns, ms, rfl, rfl, ha, hb, q⟩
theorem x_gtL {ns ms : List Int} (ha : SqL K H a (ns.map V.int)) (hb : SqL K H b (ms.map V.int)) (q : Q (.bl (lexI ms ns)) H) : rGtL K (.ref a) (.ref b) H Q := ⟨a, b, ns, ms, rfl, rfl, ha, hb, q⟩
theorem lexI_eq : ∀ {xs ys : List Int}, lexI xs ys = false → lexI ys xs = false → xs = ys
  | [], [], _, _ => rfl
  | [], _ :: _, h, _ => by cases h
  | _ :: _, [], _, h => by cases h
  | x :: xs, y :: ys, h1, h2 => by
    have h1 : (if x = y then lexI xs ys else decide (x < y)) = false := h1
    have h2 : (if y = x then lexI ys xs else decide (y < x)) = false := h2
    by_cases a : x = y
    · rw [if_pos a] at h1
      rw [if_pos a.symm] at h2
      rw [a, lexI_eq h1 h2]
    · rw [if_neg a] at h1
      rw [if_neg (fun z => a z.symm)] at h2
      have h1 := of_decide_eq_false h1
      have h2 := of_decide_eq_false h2
      exact absurd (by omega) a
theorem map_int_inj : ∀ {xs ys : List Int}, xs.map V.int = ys.map V.int → xs = ys
  | [], [], _ => rfl
  | [], _ :: _, h => by cases h
  | _ :: _, [], h => by cases h
  | x :: xs, y :: ys, h => by
    rw [List.map_cons, List.map_cons] at h
    obtain ⟨h1, h2⟩ := List.cons.inj h
    rw [V.int.inj h1, map_int_inj h2]
theorem eqv_ints : ∀ ns ms : List Int, PyData.eqvAll (ns.map PyData.int) (ms.map PyData.int) = decide (ns = ms)
  | [], [] => by simp [PyData.eqvAll]
  | [], _ :: _ => by simp [PyData.eqvAll]
  | _ :: _, [] => by simp [PyData.eqvAll]
  | x :: xs, y :: ys => by
    rw [List.map_cons, List.map_cons, PyData.eqvAll, eqv_ints xs ys, PyData.eqv]
    by_cases h : x = y <;> by_cases h2 : xs = ys <;> simp [h, h2]
theorem intsD_sh (ns : List Int) : Sh 9 (intsD ns) := Sh.list (k := 8) fun d hd => by
  obtain ⟨n, _, rfl⟩ := List.mem_map.mp hd
  exact Sh.int
theorem x_eqL {ns ms : List Int} (ha : SqL K H a (ns.map V.int)) (hb : SqL K H b (ms.map V.int)) (q : Q (.bl (decide (ns = ms))) H) : uEq K (.ref a) (.ref b) H Q := by
  refine x_eqD (d := intsD ns) (e := intsD ms) (.lst ha dpInts) (.lst hb dpInts) (intsD_sh ns) (intsD_sh ms) ?_
  have e : PyData.eqv (intsD ns) (intsD ms) = decide (ns = ms) := by
    unfold intsD
    rw [PyData.eqv, eqv_ints]
  rw [e]
  exact q
/-- rows of numbers, off the places S -/
def LLr (S : List Addr) (H : Hp) (xs : List V) (rows : List (List Int)) : Prop := xs.length = rows.length ∧ ∀ (i : Nat) x row, xs[i]? = some x → rows[i]? = some row → ∃ t, x = .ref t ∧ t ∉ S ∧ H t = some (.lst (row.map V.int))
theorem LLr.nil {S : List Addr} : LLr S H [] [] := ⟨rfl, fun i x row h _ => by simp at h⟩
theorem LLr.off {S : List Addr} {H' : Hp} {xs : List V} {rows : List (List Int)} (s : Off S H H') (h : LLr S H xs rows) : LLr S H' xs rows :=
  ⟨h.1, fun i x row h1 h2 => let ⟨t, e, n, ht⟩ := h.2 i x row h1 h2; ⟨t, e, n, s _ _ n ht⟩⟩
theorem LLr.sub {S S' : List Addr} {xs : List V} {rows : List (List Int)} (k : ∀ b ∈ S', b ∈ S) (h : LLr S H xs rows) : LLr S' H xs rows :=
  ⟨h.1, fun i x row h1 h2 => let ⟨t, e, n, ht⟩ := h.2 i x row h1 h2; ⟨t, e, fun m => n (k _ m), ht⟩⟩
theorem LLr.snoc {S : List Addr} {xs : List V} {rows : List (List Int)} {t : Addr} {row : List Int} (h : LLr S H xs rows) (n : t ∉ S) (ht : H t = some (.lst (row.map V.int))) : LLr S H (xs ++ [.ref t]) (rows ++ [row]) := by
  refine ⟨by simp [h.1], fun i x r h1 h2 => ?_⟩
  by_cases hi : i < xs.length
  · rw [List.getElem?_append_left hi] at h1
    rw [List.getElem?_append_left (h.1 ▸ hi)] at h2
    exact h.2 i x r h1 h2
  · have e : i = xs.length := by
      have := (List.getElem?_eq_some_iff.mp h1).1
      simp at this
      omega
    subst e
    rw [List.getElem?_append_right (Nat.le_refl _)] at h1
    rw [h.1, List.getElem?_append_right (Nat.le_refl _)] at h2
    simp at h1 h2
    subst h1 h2
    exact ⟨t, rfl, n, ht⟩
theorem LLr.get {S : List Addr} {xs : List V} {rows : List (List Int)} (h : LLr S H xs rows) {i : Nat} {x : V} (hi : xs[i]? = some x) : ∃ t row, rows[i]? = some row ∧ x = .ref t ∧ H t = some (.lst (row.map V.int)) := by
  have hl := (List.getElem?_eq_some_iff.mp hi).1
  have hl2 : i < rows.length := h.1 ▸ hl
  obtain ⟨t, e, _, ht⟩ := h.2 i x _ hi (List.getElem?_eq_getElem hl2)
  exact ⟨t, _, List.getElem?_eq_getElem hl2, e, ht⟩
open Classical in
noncomputable def kOf (H : Hp) (x : V) : List Int := if h : ∃ row : List Int, ∃ t, x = .ref t ∧ H t = some (.lst (row.map V.int)) then h.choose else []
theorem kOf_eq {t : Addr} {row : List Int} (h : H t = some (.lst (row.map V.int))) : kOf H (.ref t) = row := by
  have hx : ∃ row : List Int, ∃ t2, V.ref t = .ref t2 ∧ H t2 = some (.lst (row.map V.int)) := ⟨row, t, rfl, h⟩
  unfold kOf
  rw [dif_pos hx]
  obtain ⟨t2, e, h2⟩ := hx.choose_spec
  cases e
  rw [h] at h2
  exact (map_int_inj (HO.lst.inj (Option.some.inj h2))).symm
theorem LLr.ks {S : List Addr} {xs : List V} {rows : List (List Int)} (h : LLr S H xs rows) : ∀ x ∈ xs, ∃ t, x = V.ref t ∧ SqL K H t ((kOf H x).map V.int) := fun x hx => by
  obtain ⟨i, hi⟩ := List.mem_iff_getElem?.mp hx
  obtain ⟨t, row, _, rfl, ht⟩ := h.get hi
  exact ⟨t, rfl, by rw [kOf_eq ht]; exact SqL.of ht⟩
theorem LLr.key {S : List Addr} {xs : List V} {rows : List (List Int)} (h : LLr S H xs rows) {x : V} (hx : x ∈ xs) : kOf H x ∈ rows ∧ ∃ t, x = .ref t ∧ H t = some (.lst ((kOf H x).map V.int)) := by
  obtain ⟨i, hi⟩ := List.mem_iff_getElem?.mp hx
  obtain ⟨t, row, e, rfl, ht⟩ := h.get hi
  rw [kOf_eq ht]
  exact ⟨List.mem_of_getElem? e, t, rfl, ht⟩
theorem LLr.row {S : List Addr} {xs : List V} {rows : List (List Int)} (h : LLr S H xs rows) {row : List Int} (hr : row ∈ rows) : ∃ x ∈ xs, kOf H x = row := by
  obtain ⟨i, hi⟩ := List.mem_iff_getElem?.mp hr
  have hl := (List.getElem?_eq_some_iff.mp hi).1
  have hl2 : i < xs.length := h.1 ▸ hl
  obtain ⟨t, e, _, ht⟩ := h.2 i _ _ (List.getElem?_eq_getElem hl2) hi
  exact ⟨xs[i], List.getElem_mem hl2, by rw [e, kOf_eq ht]⟩
theorem x_minL {S : List Addr} {r : Addr} {xs : List V} {rows : List (List Int)} (hr : H r = some (.lst xs)) (h : LLr S H xs rows) (hne : rows ≠ []) (q : ∀ t row, row ∈ rows → (∀ row' ∈ rows, lexI row' row = false) → H t = some (.lst (row.map V.int)) → Q (.ref t) H) : rMinL K [.ref r] H Q := by
  refine ⟨r, xs, kOf H, rfl, SqL.of hr, fun z => hne (by rw [z] at h; exact List.length_eq_zero_iff.mp h.1.symm), h.ks, fun x hx hm => ?_⟩
  obtain ⟨h1, t, rfl, ht⟩ := h.key hx
  refine q t _ h1 (fun row' hr' => ?_) ht
  obtain ⟨y, hy, rfl⟩ := h.row hr'
  exact hm y hy
theorem x_maxL {S : List Addr} {r : Addr} {xs : List V} {rows : List (List Int)} (hr : H r = some (.lst xs)) (h : LLr S H xs rows) (hne : rows ≠ []) (q : ∀ t row, row ∈ rows → (∀ row' ∈ rows, lexI row row' = false) → H t = some (.lst (row.map V.int)) → Q (.ref t) H) : rMaxL K [.ref r] H Q := by
  refine ⟨r, xs, kOf H, rfl, SqL.of hr, fun z => hne (by rw [z] at h; exact List.length_eq_zero_iff.mp h.1.symm), h.ks, fun x hx hm => ?_⟩
  obtain ⟨h1, t, rfl, ht⟩ := h.key hx
  refine q t _ h1 (fun row' hr' => ?_) ht
  obtain ⟨y, hy, rfl⟩ := h.row hr'
  exact hm y hy
end
/-- the first of those that are best by R -/
structure FirstR (R : List Int → List Int → Bool) (f : Tal → List Int) (ts : List Tal) (i : Nat) (r : Tal) : Prop where
  at_ : ts[i]? = some r
  le : ∀ t ∈ ts, R (f t) (f r) = false
  lt : ∀ j t, j < i → ts[j]? = some t → f t ≠ f r
theorem pick_firstR (R : List Int → List Int → Bool) (hrf : ∀ x, R x x = false) (htr : ∀ {x y z}, R y x = false → R z y = false → R z x = false) (has : ∀ {x y}, R x y = true → R y x = false) (f : Tal → List Int) : ∀ (ts : List Tal), ts ≠ [] → ∃ i, FirstR R f ts i (pick (fun t u => R (f t) (f u)) ts) := by
  have key : ∀ (ts : List Tal) (done : List Tal) (b : Tal) (i : Nat), FirstR R f done i b → ∃ i, FirstR R f (done ++ ts) i (pickL (fun t u => R (f t) (f u)) b ts) := by
    intro ts
    induction ts with
    | nil => intro done b i h; rw [List.append_nil]; exact ⟨i, h⟩
    | cons t ts ih =>
      intro done b i h
      have e : done ++ t :: ts = (done ++ [t]) ++ ts := by simp
      rw [e]
      show ∃ i, FirstR R f _ i (pickL _ (if R (f t) (f b) = true then t else b) ts)
      by_cases hg : R (f t) (f b) = true
      · rw [if_pos hg]
        refine ih _ _ done.length ⟨by rw [List.getElem?_append_right (Nat.le_refl _), Nat.sub_self]; rfl, fun x hx => ?_, fun j x hj hx z => ?_⟩
        · rcases List.mem_append.mp hx with hx | hx
          · exact htr (has hg) (h.le x hx)
          · rw [List.mem_singleton] at hx; subst hx; exact hrf _
        · rw [List.getElem?_append_left hj] at hx
          have := h.le x (List.mem_of_getElem? hx)
          rw [z, hg] at this
          cases this
      · rw [if_neg hg]
        have hi := (List.getElem?_eq_some_iff.mp h.at_).1
        refine ih _ _ i ⟨by rw [List.getElem?_append_left hi]; exact h.at_, fun x hx => ?_, fun j x hj hx => ?_⟩
        · rcases List.mem_append.mp hx with hx | hx
          · exact h.le x hx
          · rw [List.mem_singleton] at hx; subst hx; simpa using hg
        · rw [List.getElem?_append_left (by omega)] at hx
          exact h.lt j x hj hx
  intro ts hne
  cases ts with
  | nil => exact absurd rfl hne
  | cons t ts =>
    have := key ts [t] t 0 ⟨rfl, fun x hx => by rw [List.mem_singleton] at hx; subst hx; exact hrf _, fun j x hj => by omega⟩
    exact this
/-- the first of those that have a property -/
theorem filter_first {p : Tal → Bool} : ∀ (ts : List Tal) (i : Nat) (r : Tal), ts[i]? = some r → p r = true → (∀ j t, j < i → ts[j]? = some t → p t = false) → (ts.filter p)[0]? = some r
  | [], i, r, h, _, _ => by simp at h
  | t :: ts, 0, r, h, hp, _ => by
    simp at h
    subst h
    rw [List.filter_cons_of_pos hp]
    rfl
  | t :: ts, i + 1, r, h, hp, hl => by
    have ht := hl 0 t (by omega) rfl
    rw [List.filter_cons_of_neg (by rw [ht]; decide)]
    exact filter_first ts i r (by simpa using h) hp (fun j u hj hu => hl (j + 1) u (by omega) (by simpa using hu))
/-! ### several rules, one behind the other -/
def ordG : List (Int → Int → Tal → Tal → Bool) → Int → Int → Tal → Tal → Bool
  | [], _, _, _, _ => false
  | g :: gs, pages, now, t, u => if g pages now t u = true then true else if g pages now u t = true then false else ordG gs pages now t u
def spOInit (T : Txt K mg) : Sp := fun vs H Q E => ∃ (r b dx : Addr) (xs : List V), vs = [.ref r, .ref b] ∧ H r = some (.ins T.C_Order dx []) ∧ SqL K H b xs ∧
  ((1 ≤ xs.length ∧ xs.length ≤ 8) → ∀ bl H', H bl = none → Off [r] H H' → H' r = some (.ins T.C_Order dx [("rules", .ref bl)]) → H' bl = some (.lst xs) → Q .non H') ∧ (¬ (1 ≤ xs.length ∧ xs.length ≤ 8) → E (.ref T.C_NoRule) none H)
theorem ok_Order_init (T : Txt K mg) : FO P w K mg base 3 T.a_Order_init T.fd_Order_init ["self", "rules"] (spOInit T) := by
  have sc := sc_Order_init
  refine T.F_Order_init.okX sc (fun vs H Q E h => ?_) (fun cdv A outer s H vs Q E hr h => ?_)
  · obtain ⟨_, _, _, _, rfl, _⟩ := h
    rfl
  · obtain ⟨r, b, dx, xs, rfl, hR, hb, q1, q2⟩ := h
    refine ⟨_, (pss_cons (ps_if (pt_not (pt_chain op_le op_le pe_int (pe_callB (cr_ulen) (by rfl) T.b_len bt_len (pa_cons (pv 1) pa_nil)) pe_int)) (pss_one (ps_raiseK rfl (takes_of rfl rfl rfl rfl) (pmk_ownK T.xc_NoRule T.g_NoRule rfl))) pss_nil)
      (pss_one (ps_fld (pv 0) (pe_callTy ct_list (by rfl) T.b_list bt_list (pa_cons (pv 1) pa_nil)) rfl))), ?_⟩
    walk_at "begin"
    walk_at "if"
    by_cases h1 : (1 : Int) ≤ (xs.length : Int)
    · rw [if_pos (decide_eq_true h1)]
      walk_at "go"
      refine x_iteD (fun h8 => ?_) (fun h8 => ?_)
      · walk_at "go"
        rename_i bl H1 hbl hs1 hn1 H2 hO2 hI2
        have hne : bl ≠ r := fun z => by rw [z] at hbl; rw [hbl] at hR; cases hR
        exact q1 ⟨by omega, by omega⟩ bl H2 hbl ((Off.of hs1).trans hO2) hI2 (hO2.at hn1 (nin_of hne))
      · walk_at "go"
        exact q2 (by omega)
    · rw [if_neg (by rw [decide_eq_false h1]; decide)]
      walk_at "go"
      exact q2 (by omega)
/-- objects with rules, in a list -/
def RobL (P : Program) (w : World) (K : PySem.W.Frag) (mg : Str → Option Value) (base : Heap) (kk : Nat) (H : Hp) (rs : List Addr) (gs : List (Int → Int → Tal → Tal → Bool)) (rf : List Addr) : Prop :=
  rs.length = gs.length ∧ ∀ (i : Nat) r g, rs[i]? = some r → gs[i]? = some g → ∃ rf1, (∀ a ∈ rf1, a ∈ rf) ∧ RuleOb P w K mg base kk g H rf1 r
theorem RobL.keep {kk : Nat} {H H' : Hp} {rs : List Addr} {gs : List (Int → Int → Tal → Tal → Bool)} {rf : List Addr} (k : ∀ a ∈ rf, ∀ o, H a = some o → H' a = some o) (h : RobL P w K mg base kk H rs gs rf) : RobL P w K mg base kk H' rs gs rf :=
  ⟨h.1, fun i r g h1 h2 => let ⟨rf1, e, x⟩ := h.2 i r g h1 h2; ⟨rf1, e, x.keep fun a ha => k a (e a ha)⟩⟩
def spOrGA (T : Txt K mg) (P : Program) (w : World) (base : Heap) (kk : Nat) : Sp := fun vs H Q _ => ∃ (r dx l : Addr) (rs : List Addr) (gs : List (Int → Int → Tal → Tal → Bool)) (rf : List Addr) (one other : V) (t u : Tal) (pages now : Int), vs = [.ref r, one, other, .int pages, .int now] ∧ H r = some (.ins T.C_Order dx [("rules", .ref l)]) ∧ H l = some (.lst (rs.map V.ref)) ∧ RobL P w K mg base kk H rs gs rf ∧ TalAt H one t ∧ TalAt H other u ∧ TOk pages now t ∧ TOk pages now u ∧ PN pages now ∧
  ∀ H', Same H H' → Q (.bl (ordG gs pages now t u)) H'
theorem ok_Order_goes_ahead (T : Txt K mg) {kk : Nat} : FO P w K mg base (kk + 1) T.a_Order_goes_ahead T.fd_Order_goes_ahead ["self", "one", "other", "pages", "now"] (spOrGA T P w base kk) := by
  have sc := sc_Order_goes_ahead
  refine T.F_Order_goes_ahead.okX sc (fun vs H Q E h => ?_) (fun cdv A outer s H vs Q E hr h => ?_)
  · obtain ⟨_, _, _, _, _, _, _, _, _, _, _, _, rfl, _⟩ := h
    rfl
  · obtain ⟨r, dx, l, rs, gs, rf, one, other, t, u, pages, now, rfl, hR, hl, hB, h1, h2, o1, o2, hpn, q⟩ := h
    refine ⟨_, (pss_cons (ps_for (passes_of rfl) rfl (pi_list (pe_fld (pv 0) rfl)) (pg_name (i := 5) sc.nd rfl (by first | exact Or.inl rfl | exact Or.inr rfl)) (pss_cons (ps_if (pt_truth (pe_methD (k := kk) (pv 5) (hr.mono (Nat.le_refl _)) (passAt (takes_of rfl rfl rfl rfl)) (pa_cons (pv 1) (pa_cons (pv 2) (pa_cons (pv 3) (pa_cons (pv 4) pa_nil))))) (by intro _; rfl)) (pss_one (ps_ret pe_bl)) pss_nil)
      (pss_one (ps_if (pt_truth (pe_methD (k := kk) (pv 5) (hr.mono (Nat.le_refl _)) (passAt (takes_of rfl rfl rfl rfl)) (pa_cons (pv 2) (pa_cons (pv 1) (pa_cons (pv 3) (pa_cons (pv 4) pa_nil))))) (by intro _; rfl)) (pss_one ps_break) pss_nil))))
      (pss_one (ps_ret pe_bl))), ?_⟩
    walk_at "begin"
    walk_at "go"
    refine x_seq ?_
    walk_at "go"
    refine x_frL (SqL.of hl) (fun i σ H' => Same H H' ∧ (∃ v5, σ = [some (.ref r), some one, some other, some (.int pages), some (.int now), v5]) ∧ ordG gs pages now t u = ordG (gs.drop i) pages now t u) ⟨fun _ _ h => h, ⟨_, rfl⟩, rfl⟩ (fun i σ H' _ ⟨e, _⟩ => SqL.of (e _ _ hl)) ?_ ?_
    · intro i x σ H1 hx ⟨hs1, ⟨v5, hσ⟩, hg⟩
      subst hσ
      rw [List.getElem?_map] at hx
      cases hri : rs[i]? with
      | none => rw [hri] at hx; cases hx
      | some ri =>
        rw [hri] at hx
        cases hx
        have hil := (List.getElem?_eq_some_iff.mp hri).1
        have hgi : gs[i]? = some (gs[i]'(by rw [← hB.1]; exact hil)) := List.getElem?_eq_getElem _
        generalize hgg : gs[i]'(by rw [← hB.1]; exact hil) = gi at hgi
        obtain ⟨rf1, _, hb⟩ := hB.2 i ri gi hri hgi
        obtain ⟨_, _, C, dx1, fs, I, hC, hl1, _, _, hI, hM⟩ := hb.mono hs1
        have hdr : gs.drop i = gi :: gs.drop (i + 1) := by
          rw [List.drop_eq_getElem_cons (by rw [← hB.1]; exact hil), hgg]
        rw [hdr] at hg
        have hg : ordG gs pages now t u = if gi pages now t u = true then true else if gi pages now u t = true then false else ordG (gs.drop (i + 1)) pages now t u := hg
        walk_at "go"
        walk_at "if"
        refine x_mtK hC hM hl1 ?_
        walk_at "go"
        refine ⟨_, _, t, u, pages, now, rfl, hI, h1.mono (TupS.of hs1), h2.mono (TupS.of hs1), o1, o2, hpn, fun H2 hs2 => ?_⟩
        have s02 := hs1.trans hs2
        walk_at "go"
        refine x_iteB (fun hgt => ?_) (fun hgt => ?_)
        · walk_at "go"
          rw [if_pos hgt] at hg
          rw [← hg]
          exact q H2 s02
        · rw [if_neg (by rw [hgt]; decide)] at hg
          obtain ⟨_, _, C2, dx2, fs2, I2, hC2, hl2, _, _, hI2, hM2⟩ := hb.mono s02
          walk_at "go"
          refine x_mtK hC2 hM2 hl2 ?_
          walk_at "go"
          refine ⟨_, _, u, t, pages, now, rfl, hI2, h2.mono (TupS.of s02), h1.mono (TupS.of s02), o2, o1, hpn, fun H3 hs3 => ?_⟩
          have s03 := s02.trans hs3
          walk_at "go"
          refine x_iteB (fun hgu => ?_) (fun hgu => ?_)
          · walk_at "go"
            rw [if_pos hgu] at hg
            rw [← hg]
            exact q H3 s03
          · rw [if_neg (by rw [hgu]; decide)] at hg
            walk_at "go"
            exact ⟨s03, ⟨_, rfl⟩, hg⟩
    · intro σ H1 ⟨hs1, ⟨v5, hσ⟩, hg⟩
      subst hσ
      dsimp only
      rw [List.length_map, hB.1, List.drop_length] at hg
      have hg : ordG gs pages now t u = false := hg
      walk_at "go"
      rw [← hg]
      exact q H1 hs1
theorem rob_Order (T : Txt K mg) {H : Hp} {r dx l : Addr} {rs : List Addr} {gs : List (Int → Int → Tal → Tal → Bool)} {rf : List Addr} {kk : Nat} (h : H r = some (.ins T.C_Order dx [("rules", .ref l)])) (hl : H l = some (.lst (rs.map V.ref))) (hB : RobL P w K mg base kk H rs gs rf) (ht : ∀ a ∈ rf, ∃ o, H a = some o ∧ ∀ xs, o ≠ .tup xs) :
    RuleOb P w K mg base (kk + 1) (ordG gs) H (r :: l :: rf) r := by
  refine ⟨List.mem_cons_self, fun a ha => ?_, T.C_Order, dx, _, fun H => H r = some (.ins T.C_Order dx [("rules", .ref l)]) ∧ H l = some (.lst (rs.map V.ref)) ∧ RobL P w K mg base kk H rs gs rf, h, rfl, rfl, fun H1 H2 k ⟨a, b, c⟩ => ⟨k _ List.mem_cons_self _ a, k _ (List.mem_cons_of_mem _ List.mem_cons_self) _ b, c.keep fun x hx => k x (List.mem_cons_of_mem _ (List.mem_cons_of_mem _ hx))⟩, ⟨h, hl, hB⟩, ?_⟩
  · rcases List.mem_cons.mp ha with z | z
    · rw [z]
      exact ⟨_, h, fun xs z => by cases z⟩
    · rcases List.mem_cons.mp z with z | z
      · rw [z]
        exact ⟨_, hl, fun xs z => by cases z⟩
      · exact ht a z
  · exact ⟨⟨_, _, _, T.cl_Order, T.m_Order_goes_ahead, (ok_Order_goes_ahead T).imp fun vs H Q E ⟨one, other, t, u, pages, now, e, ⟨i1, i2, i3⟩, h1, h2, o1, o2, hpn, q⟩ => ⟨r, dx, l, rs, gs, rf, one, other, t, u, pages, now, e, i1, i2, i3, h1, h2, o1, o2, hpn, q⟩, T.bd_Order_goes_ahead⟩⟩
/-! ### the weight that is a lambda: how often a block was cleared -/
def lamAtB (st : Stmt) (i : Nat) : Option (Arguments × Expr × Scope) := match ((defBody st)[i]? : Option Stmt) with
  | some (Stmt.If _ b _ _) => (match (b[0]? : Option Stmt) with
    | some (Stmt.Return (some (Expr.Call _ [Expr.Lambda p e s _] _ _)) _) => some (p, e, s)
    | _ => none)
  | _ => none
abbrev lamPB (i : Nat) : Arguments := ((lamAtB s__law_base i).map (·.1)).getD (defArgs s__law_base)
abbrev lamEB (i : Nat) : Expr := ((lamAtB s__law_base i).map (·.2.1)).getD default
abbrev lamSB (i : Nat) : Scope := ((lamAtB s__law_base i).map (·.2.2)).getD (defScope s__law_base)
abbrev lamQB : Str := (("_law_base" : Str) ++ ".<locals>.") ++ "<lambda>"
theorem lamScB0 : LamSc (lamSB 0) "_law_tally" none where
  kind := by rfl
  co := by rfl
  gen := by rfl
  nocell := by decide +kernel
  par := by decide +kernel
  free := fun y h => by
    have := PySem.mem_of_lookup h
    have z : ∀ p ∈ (lamSB 0).names, p.2 ≠ .free := by decide +kernel
    exact absurd rfl (z _ this)
  nfree := fun y h => by cases h
def LAB0 (f c' : Addr) (H : Hp) : Prop := LamA H f c' lamQB (lamPB 0) (lamEB 0) (lamSB 0) none
theorem lamScB2 : LamSc (lamSB 2) "_law_tally" none where
  kind := by rfl
  co := by rfl
  gen := by rfl
  nocell := by decide +kernel
  par := by decide +kernel
  free := fun y h => by
    have := PySem.mem_of_lookup h
    have z : ∀ p ∈ (lamSB 2).names, p.2 ≠ .free := by decide +kernel
    exact absurd rfl (z _ this)
  nfree := fun y h => by cases h
def LAB2 (f c' : Addr) (H : Hp) : Prop := LamA H f c' lamQB (lamPB 2) (lamEB 2) (lamSB 2) none
theorem cutN {H : Hp} : cutA H [] = H := funext fun b => by
  unfold cutA
  rw [if_neg (fun z => by cases z)]
theorem putN {H H' : Hp} : putA H H' [] = H' := funext fun b => by
  unfold putA
  rw [if_neg (fun z => by cases z)]
theorem wtB0_ok {f c' : Addr} : WtOk P w K mg base f (LAB0 f c') (fun t => t.b % 2) where
  ok := fun A outer s H u v Q E hr e0 r h => by
    obtain ⟨one, t, pages, now, e, hA, ⟨a, rfl, ha⟩, _, _, q⟩ := h
    cases e
    refine run_lam hA lamScB0 hr e0 r (fun _ _ _ _ _ => by rfl) (fun hr => (pe_op op_mod (pe_ix ix_seq (pv 0) pe_int (fun _ _ => rfl)) pe_int)) ?_
    unfold Tal.vs at ha
    dsimp only [capV, capA]
    rw [cutN]
    walk_at "go"
    rw [putN]
    exact q H fun _ _ h => h
  pin := fun H hA => by
    obtain ⟨⟨pm, ctv, a⟩, _⟩ := hA
    exact ⟨_, a⟩
  mono := fun H H' s hA => hA.keep fun a _ o e => s a o e
theorem wtB2_ok {f c' : Addr} : WtOk P w K mg base f (LAB2 f c') (fun t => t.c) where
  ok := fun A outer s H u v Q E hr e0 r h => by
    obtain ⟨one, t, pages, now, e, hA, ⟨a, rfl, ha⟩, _, _, q⟩ := h
    cases e
    refine run_lam hA lamScB2 hr e0 r (fun _ _ _ _ _ => by rfl) (fun hr => (pe_ix ix_seq (pv 0) pe_int (fun _ _ => rfl))) ?_
    unfold Tal.vs at ha
    dsimp only [capV, capA]
    rw [cutN]
    walk_at "go"
    rw [putN]
    exact q H fun _ _ h => h
  pin := fun H hA => by
    obtain ⟨⟨pm, ctv, a⟩, _⟩ := hA
    exact ⟨_, a⟩
  mono := fun H H' s hA => hA.keep fun a _ o e => s a o e
/-! ### the rule that is turned -/
def gB (kind : Int) : Int → Int → Tal → Tal → Bool := if kind = 0 then (fun _ _ t u => decide (t.b % 2 < u.b % 2)) else if kind = 1 then gk 1 else if kind = 2 then (fun _ _ t u => decide (t.c < u.c)) else if kind = 3 then gk 2 else if kind = 4 then gk 1 else if kind = 5 then gk 0 else if kind = 6 then gW else gk 0
abbrev tabB (T : Txt K mg) : List (Addr × Str) := [(T.lt__law_base, lamQB)]
def NL (H : Hp) (a : Addr) : Prop := (∀ l, H a ≠ some (.lst l)) ∧ ∀ ps, H a ≠ some (.tbl ps)
def spBase (T : Txt K mg) (P : Program) (w : World) (base : Heap) : Sp := fun vs H Q _ => ∃ x : Int, vs = [.int x] ∧ Tabs (tabB T) H ∧ ∀ r rf H', Off [T.lt__law_base] H H' → Tabs (tabB T) H' → (∀ a ∈ rf, NL H' a) → RuleOb P w K mg base 4 (gB x) H' rf r → Q (.ref r) H'
theorem rob_Window (T : Txt K mg) {H : Hp} {r dx : Addr} {n : Int} (h : H r = some (.ins T.C_Window dx [("many", .int n)])) : RuleOb P w K mg base 4 (gk 1) H [r] r := by
  refine ⟨List.mem_cons_self, fun a ha => ?_, T.C_Window, dx, _, fun _ => True, h, rfl, rfl, fun _ _ _ _ => trivial, trivial, ?_⟩
  · rw [List.mem_singleton.mp ha]
    exact ⟨_, h, fun xs z => by cases z⟩
  · exact ⟨⟨_, _, _, T.cl_Window, T.m_Window_goes_ahead, ((ok_Fewest_goes_ahead T).mono (by decide)).imp fun vs H Q E ⟨one, other, t, u, pages, now, e, _, z⟩ => ⟨_, one, other, t, u, pages, now, e, z⟩, T.bd_Fewest_goes_ahead⟩⟩
theorem rob_Follow (T : Txt K mg) {H : Hp} {r dx : Addr} {fs : List (Str × V)} (h : H r = some (.ins T.C_Follow dx fs)) (l1 : fs.lookup (Str.ofString "goes_ahead") = none) (l2 : fs.lookup (Str.ofString "choose") = none) : RuleOb P w K mg base 4 (gk 0) H [r] r := by
  refine ⟨List.mem_cons_self, fun a ha => ?_, T.C_Follow, dx, fs, fun _ => True, h, l1, l2, fun _ _ _ _ => trivial, trivial, ?_⟩
  · rw [List.mem_singleton.mp ha]
    exact ⟨_, h, fun xs z => by cases z⟩
  · exact ⟨⟨_, _, _, T.cl_Follow, T.m_Follow_goes_ahead, ((ok_Rule_goes_ahead T).mono (by decide)).imp fun vs H Q E ⟨one, other, t, u, pages, now, e, _, z⟩ => ⟨_, one, other, t, u, pages, now, e, z⟩, T.bd_Rule_goes_ahead⟩⟩
theorem nlst1 {H : Hp} {r C dx : Addr} {fs : List (Str × V)} (h : H r = some (.ins C dx fs)) : ∀ a ∈ [r], NL H a := fun a ha => by
  rw [List.mem_singleton.mp ha]
  exact ⟨fun l z => (by rw [h] at z; cases z), fun l z => (by rw [h] at z; cases z)⟩
theorem nl_of {H : Hp} {a : Addr} {o : HO} (h : H a = some o) (h1 : ∀ l, o ≠ .lst l) (h2 : ∀ l, o ≠ .tbl l) : NL H a := ⟨fun l z => h1 l (Option.some.inj (h.symm.trans z)), fun l z => h2 l (Option.some.inj (h.symm.trans z))⟩
theorem tabs_lst {T : List (Addr × Str)} {H : Hp} {D : Addr} {a0 a1 : List V} (h : Tabs T H) (hD : H D = some (.lst a0)) : Tabs T (upd H D (.lst a1)) := fun p hp => by
  obtain ⟨ps, h1, h2, h3⟩ := h p hp
  refine ⟨ps, ?_, h2, fun pos cv hc => ?_⟩
  · rw [upd_ne (ne_of h1 hD (fun z => by cases z))]
    exact h1
  · obtain ⟨c, e1, e2⟩ := h3 pos cv hc
    exact ⟨c, e1, by rw [upd_ne (ne_of e2 hD (fun z => by cases z))]; exact e2⟩
theorem ok_base (T : Txt K mg) (hTB : TabB base mg T.lc__law_base T.lt__law_base) : FO P w K mg base 6 T.a__law_base T.fd__law_base ["_law_kind"] (spBase T P w base) := by
  have sc := sc__law_base
  refine okC2 T.F__law_base sc (fun vs H Q E h => ?_) (fun A outer s H vs Q E hr h => ?_)
  · obtain ⟨_, rfl, _⟩ := h
    rfl
  obtain ⟨x, rfl, hT, q⟩ := h
  have hcdL := T.lcd__law_base
  have hmL : (T.lt__law_base, lamQB) ∈ tabB T := List.mem_cons_self
  have huL : ∀ p ∈ tabB T, p.1 = T.lt__law_base → p.2 = lamQB := fun p hp _ => by rw [List.mem_singleton.mp hp]
  have lamFree0 : ∀ y ∈ (lamSB 0).names, y.2 = .free → ∃ c, (cellsFrom (s.heap.objs.size + 1) (defScope s__law_base).names []).lookup y.1 = some c := fun y hy hf => by
    have z : ∀ p ∈ (lamSB 0).names, p.2 ≠ .free := by decide +kernel
    exact absurd hf (z y hy)
  have lamFree1 : ∀ y ∈ (lamSB 2).names, y.2 = .free → ∃ c, (cellsFrom (s.heap.objs.size + 1) (defScope s__law_base).names []).lookup y.1 = some c := fun y hy hf => by
    have z : ∀ p ∈ (lamSB 2).names, p.2 ≠ .free := by decide +kernel
    exact absurd hf (z y hy)
  refine ⟨_, (pscs_cons (psc_if (pt_cmpR (op_uEq hr.units) (pv 0) pe_int (nomark _)) (pscs_cons (psc_ret (pe_mkS T.mk_Weighed (ok_Weighed_init T) (hr.mono (by decide)) (by rfl) T.g_Weighed T.bd_Weighed_init .nil (passAt (takes_of rfl rfl rfl rfl)) (pa_cons (pe_lamK hTB hcdL hmL huL rfl (by rfl) lamFree0) pa_nil)))
      pscs_nil) pscs_nil)
      (pscs_cons (psc_if (pt_cmpR (op_uEq hr.units) (pv 0) pe_int (nomark _)) (pscs_cons (psc_ret (pe_mkN T.mk0_Fewest (by rfl) T.g_Fewest))
      pscs_nil) pscs_nil)
      (pscs_cons (psc_if (pt_cmpR (op_uEq hr.units) (pv 0) pe_int (nomark _)) (pscs_cons (psc_ret (pe_mkS T.mk_Weighed (ok_Weighed_init T) (hr.mono (by decide)) (by rfl) T.g_Weighed T.bd_Weighed_init .nil (passAt (takes_of rfl rfl rfl rfl)) (pa_cons (pe_lamK hTB hcdL hmL huL rfl (by rfl) lamFree1) pa_nil)))
      pscs_nil) pscs_nil)
      (pscs_cons (psc_if (pt_cmpR (op_uEq hr.units) (pv 0) pe_int (nomark _)) (pscs_cons (psc_ret (pe_mkN T.mk0_Eldest (by rfl) T.g_Eldest))
      pscs_nil) pscs_nil)
      (pscs_cons (psc_if (pt_cmpR (op_uEq hr.units) (pv 0) pe_int (nomark _)) (pscs_cons (psc_ret (pe_mkS T.mk_Window (ok_Window_init T) (hr.mono (by decide)) (by rfl) T.g_Window T.bd_Window_init .nil (passAt (takes_of rfl rfl rfl rfl)) (pa_cons pe_int pa_nil)))
      pscs_nil) pscs_nil)
      (pscs_cons (psc_if (pt_cmpR (op_uEq hr.units) (pv 0) pe_int (nomark _)) (pscs_cons (psc_ret (pe_mkS T.mk_Follow (ok_Follow_init T) (hr.mono (by decide)) (by rfl) T.g_Follow T.bd_Follow_init .nil (passAt (takes_of rfl rfl rfl rfl)) (pa_cons (pe_lst (pa_cons pe_int (pa_cons pe_int pa_nil))) pa_nil)))
      pscs_nil) pscs_nil)
      (pscs_cons (psc_if (pt_cmpR (op_uEq hr.units) (pv 0) pe_int (nomark _)) (pscs_cons (psc_ret (pe_mkN T.mk0_Worth (by rfl) T.g_Worth))
      pscs_nil) pscs_nil)
      (pscs_cons (psc_ret (pe_mkN T.mk0_Rule (by rfl) T.g_Rule))
      pscs_nil)))))))), ?_⟩
  unfold gB at q
  refine x_seqC (x_ifC ?_)
  walk_at "go"
  refine x_iteD (fun h0 => ?_) (fun h0 => ?_)
  · rw [if_pos h0] at q
    refine x_seqC (x_retC ?_)
    walk_at "go"
    refine x_lamK hT fun f c' pm ctv H2 hO2 hT2 hf hf2 hc2 hc0 => ?_
    walk_at "go"
    rename_i r dx H3 hr1 hdx hne hs3 hn3 hd3
    refine ⟨r, dx, f, rfl, hn3, fun H4 hO4 hI4 => ⟨rfl, ?_⟩⟩
    have s24 : Same H2 H4 := Off.same1 hs3 hO4 hr1
    have hLA : LAB0 f c' H4 := ⟨⟨pm, ctv, s24 _ _ hf2⟩, s24 _ _ hc2, trivial⟩
    refine ⟨none, trivial, fun _ => q r [r, f, c'] H4 (fun b o nb e => s24 _ _ (hO2 b o nb e)) (Tabs.ext hT2 fun b o e => s24 b o e) (fun a ha => by
      rcases List.mem_cons.mp ha with rfl | ha
      · exact nl_of hI4 (fun l z => by cases z) (fun l z => by cases z)
      rcases List.mem_cons.mp ha with rfl | ha
      · exact nl_of (s24 _ _ hf2) (fun l z => by cases z) (fun l z => by cases z)
      · rw [List.mem_singleton.mp ha]
        exact nl_of (s24 _ _ hc2) (fun l z => by cases z) (fun l z => by cases z)) (rob_Weighed T (la := [f, c']) hI4 wtB0_ok hLA (fun H1 H2 k h => LamA.keep h fun a ha => k a ?_) fun a ha => ?_)⟩
    · exact ha
    · rcases List.mem_cons.mp ha with rfl | ha
      · exact ⟨_, s24 _ _ hf2, fun xs z => by cases z⟩
      · rw [List.mem_singleton.mp ha]
        exact ⟨_, s24 _ _ hc2, fun xs z => by cases z⟩
  rw [if_neg h0] at q
  refine x_nilC ?_
  dsimp only
  refine x_seqC (x_ifC ?_)
  walk_at "go"
  refine x_iteD (fun h1 => ?_) (fun h1 => ?_)
  · rw [if_pos h1] at q
    refine x_seqC (x_retC ?_)
    walk_at "go"
    rename_i r dx H1 hr1 hdx hne hs1 hn1 hd1
    exact ⟨none, trivial, fun _ => q r [r] H1 (Off.of hs1) (Tabs.ext hT fun b o e => hs1 b o e) (nlst1 hn1) (ruleOb1 hn1 ⟨⟨_, _, _, T.cl_Fewest, T.m_Fewest_goes_ahead, (ok_Fewest_goes_ahead T).mono (by decide), T.bd_Fewest_goes_ahead⟩⟩)⟩
  rw [if_neg h1] at q
  refine x_nilC ?_
  dsimp only
  refine x_seqC (x_ifC ?_)
  walk_at "go"
  refine x_iteD (fun h2 => ?_) (fun h2 => ?_)
  · rw [if_pos h2] at q
    refine x_seqC (x_retC ?_)
    walk_at "go"
    refine x_lamK hT fun f c' pm ctv H2 hO2 hT2 hf hf2 hc2 hc0 => ?_
    walk_at "go"
    rename_i r dx H3 hr1 hdx hne hs3 hn3 hd3
    refine ⟨r, dx, f, rfl, hn3, fun H4 hO4 hI4 => ⟨rfl, ?_⟩⟩
    have s24 : Same H2 H4 := Off.same1 hs3 hO4 hr1
    have hLA : LAB2 f c' H4 := ⟨⟨pm, ctv, s24 _ _ hf2⟩, s24 _ _ hc2, trivial⟩
    refine ⟨none, trivial, fun _ => q r [r, f, c'] H4 (fun b o nb e => s24 _ _ (hO2 b o nb e)) (Tabs.ext hT2 fun b o e => s24 b o e) (fun a ha => by
      rcases List.mem_cons.mp ha with rfl | ha
      · exact nl_of hI4 (fun l z => by cases z) (fun l z => by cases z)
      rcases List.mem_cons.mp ha with rfl | ha
      · exact nl_of (s24 _ _ hf2) (fun l z => by cases z) (fun l z => by cases z)
      · rw [List.mem_singleton.mp ha]
        exact nl_of (s24 _ _ hc2) (fun l z => by cases z) (fun l z => by cases z)) (rob_Weighed T (la := [f, c']) hI4 wtB2_ok hLA (fun H1 H2 k h => LamA.keep h fun a ha => k a ?_) fun a ha => ?_)⟩
    · exact ha
    · rcases List.mem_cons.mp ha with rfl | ha
      · exact ⟨_, s24 _ _ hf2, fun xs z => by cases z⟩
      · rw [List.mem_singleton.mp ha]
        exact ⟨_, s24 _ _ hc2, fun xs z => by cases z⟩
  rw [if_neg h2] at q
  refine x_nilC ?_
  dsimp only
  refine x_seqC (x_ifC ?_)
  walk_at "go"
  refine x_iteD (fun h3 => ?_) (fun h3 => ?_)
  · rw [if_pos h3] at q
    refine x_seqC (x_retC ?_)
    walk_at "go"
    rename_i r dx H1 hr1 hdx hne hs1 hn1 hd1
    exact ⟨none, trivial, fun _ => q r [r] H1 (Off.of hs1) (Tabs.ext hT fun b o e => hs1 b o e) (nlst1 hn1) (ruleOb1 hn1 ⟨⟨_, _, _, T.cl_Eldest, T.m_Eldest_goes_ahead, (ok_Eldest_goes_ahead T).mono (by decide), T.bd_Eldest_goes_ahead⟩⟩)⟩
  rw [if_neg h3] at q
  refine x_nilC ?_
  dsimp only
  refine x_seqC (x_ifC ?_)
  walk_at "go"
  refine x_iteD (fun h4 => ?_) (fun h4 => ?_)
  · rw [if_pos h4] at q
    refine x_seqC (x_retC ?_)
    walk_at "go"
    rename_i r dx H1 hr1 hdx hne hs1 hn1 hd1
    refine ⟨r, dx, _, some 1, rfl, hn1, .int _, fun _ H2 hO hI => ⟨rfl, ?_⟩, fun z => by cases z⟩
    exact ⟨none, trivial, fun _ => q r [r] H2 (Off.of (Off.same1 hs1 hO hr1)) (Tabs.ext hT fun b o e => Off.same1 hs1 hO hr1 b o e) (nlst1 hI) (rob_Window T hI)⟩
  rw [if_neg h4] at q
  refine x_nilC ?_
  dsimp only
  refine x_seqC (x_ifC ?_)
  walk_at "go"
  refine x_iteD (fun h5 => ?_) (fun h5 => ?_)
  · rw [if_pos h5] at q
    refine x_seqC (x_retC ?_)
    walk_at "go"
    rename_i l5 H1 hl5 hs1 hn1 r dx H2 hr1 hdx hne hs2 hn2 hd2
    refine ⟨r, l5, dx, _, rfl, hn2, SqL.of (hs2 _ _ hn1), fun bl H3 hbl hO hI hIb => ⟨rfl, ?_⟩⟩
    exact ⟨none, trivial, fun _ => q r [r] H3 (Off.of (hs1.trans (Off.same1 hs2 hO hr1))) (Tabs.ext hT fun b o e => hs1.trans (Off.same1 hs2 hO hr1) b o e) (nlst1 hI) (rob_Follow T hI rfl rfl)⟩
  rw [if_neg h5] at q
  refine x_nilC ?_
  dsimp only
  refine x_seqC (x_ifC ?_)
  walk_at "go"
  refine x_iteD (fun h6 => ?_) (fun h6 => ?_)
  · rw [if_pos h6] at q
    refine x_seqC (x_retC ?_)
    walk_at "go"
    rename_i r dx H1 hr1 hdx hne hs1 hn1 hd1
    exact ⟨none, trivial, fun _ => q r [r] H1 (Off.of hs1) (Tabs.ext hT fun b o e => hs1 b o e) (nlst1 hn1) (ruleOb1 hn1 ⟨⟨_, _, _, T.cl_Worth, T.m_Worth_goes_ahead, (ok_Worth_goes_ahead T).mono (by decide), T.bd_Worth_goes_ahead⟩⟩)⟩
  rw [if_neg h6] at q
  refine x_nilC ?_
  dsimp only
  refine x_seqC (x_retC ?_)
  walk_at "go"
  rename_i r dx H1 hr1 hdx hne hs1 hn1 hd1
  exact ⟨none, trivial, fun _ => q r [r] H1 (Off.of hs1) (Tabs.ext hT fun b o e => hs1 b o e) (nlst1 hn1) (ruleOb1 hn1 ⟨⟨_, _, _, T.cl_Rule, T.m_Rule_goes_ahead, (ok_Rule_goes_ahead T).mono (by decide), T.bd_Rule_goes_ahead⟩⟩)⟩
def gM (x : Int) : Int → Int → Tal → Tal → Bool := if x / 8 % 3 = 0 then (fun pages now t u => gB (x % 8) pages now u t) else gB (x % 8)
def spMade (T : Txt K mg) (P : Program) (w : World) (base : Heap) : Sp := fun vs H Q _ => ∃ x : Int, vs = [.int x] ∧ Tabs (tabB T) H ∧ ∀ r rf H', Off [T.lt__law_base] H H' → Tabs (tabB T) H' → (∀ a ∈ rf, NL H' a) → RuleOb P w K mg base 5 (gM x) H' rf r → Q (.ref r) H'
theorem ok_made (T : Txt K mg) (hTB : TabB base mg T.lc__law_base T.lt__law_base) : FO P w K mg base 7 T.a__law_made T.fd__law_made ["_law_cell"] (spMade T P w base) := by
  have sc := sc__law_made
  refine T.F__law_made.okX sc (fun vs H Q E h => ?_) (fun cdv A outer s H vs Q E hr h => ?_)
  · obtain ⟨_, rfl, _⟩ := h
    rfl
  obtain ⟨x, rfl, hT, q⟩ := h
  refine ⟨_, (pss_cons (ps_set (i := 1) sc.nd rfl (by first | exact Or.inl rfl | exact Or.inr rfl) (pe_callS (ok_base T hTB) (hr.mono (by decide)) (by rfl) T.g__law_base T.k__law_base T.bd__law_base (passAt (takes_of rfl rfl rfl rfl)) (pa_cons (pe_op op_mod (pv 0) pe_int) pa_nil)))
      (pss_cons (ps_if (pt_cmpR (op_uEq hr.units) (pe_op op_mod (pe_op op_fdivW (pv 0) pe_int) pe_int) pe_int (nomark _)) (pss_one (ps_ret (pe_mkS T.mk_Turned (ok_Turned_init T) (hr.mono (by decide)) (by rfl) T.g_Turned T.bd_Turned_init .nil (passAt (takes_of rfl rfl rfl rfl)) (pa_cons (pv 1) pa_nil)))) pss_nil)
      (pss_one (ps_ret (pv 1))))), ?_⟩
  unfold gM at q
  walk_at "begin"
  walk_at "go"
  refine ⟨x % 8, rfl, hT, fun r rf H1 hO1 hT1 hL1 hR1 => ?_⟩
  walk_at "go"
  walk_at "if"
  refine x_iteD (fun h => ?_) (fun h => ?_)
  · rw [if_pos h] at q
    walk_at "go"
    rename_i r2 dx H2 hr2 hdx hne hs2 hn2 hdd
    refine ⟨r2, dx, r, rfl, hn2, fun H3 hO3 hI3 => ⟨rfl, ?_⟩⟩
    have s13 : Same H1 H3 := Off.same1 hs2 hO3 hr2
    walk_at "go"
    refine q r2 (r2 :: rf) H3 (fun b o nb e => s13 _ _ (hO1 b o nb e)) (Tabs.ext hT1 fun b o e => s13 b o e) (fun a ha => ?_) (rob_Turned T hI3 (hR1.mono s13))
    rcases List.mem_cons.mp ha with rfl | ha
    · exact nl_of hI3 (fun l z => by cases z) (fun l z => by cases z)
    · obtain ⟨o, e, _⟩ := hR1.2.1 a ha
      exact nl_of (s13 _ _ e) (fun l z => (hL1 a ha).1 l (by rw [e, z])) (fun l z => (hL1 a ha).2 l (by rw [e, z]))
  · rw [if_neg h] at q
    walk_at "go"
    exact q r rf H1 hO1 hT1 hL1 (hR1.up (by decide))
/-! ### ranks -/
def wI (pages now : Int) (t : Tal) : Int := (pages - t.l) * (now - t.o) * (mn pages (pages + 1).toNat / (pages + t.l))
theorem wI_bd {pages now : Int} {t : Tal} (ht : TOk pages now t) (hn : PN pages now) : (wI pages now t).natAbs < 2 ^ 240 := by
  obtain ⟨_, _, o1, o2, _, _, o3, o4⟩ := ht
  obtain ⟨hp1, hp2, hp3, hp4⟩ := hn
  have hm1 := mn_pos hp1 (pages + 1).toNat
  have hm2 : mn pages (pages + 1).toNat < 2 ^ 102 + 1 := by
    have h1 := mn_bd hp1 hp2 (pages + 1).toNat (by omega)
    have h2 : (64 : Int) ^ (pages + 1).toNat ≤ 64 ^ 17 := (by decide : ∀ k, k ≤ 17 → (64 : Int) ^ k ≤ 64 ^ 17) _ (by omega)
    have h3 : (64 : Int) ^ 17 = 2 ^ 102 := by decide
    omega
  have hd1 : 0 ≤ mn pages (pages + 1).toNat / (pages + t.l) := Int.ediv_nonneg (Int.le_of_lt hm1) (by omega)
  have hd2 : mn pages (pages + 1).toNat / (pages + t.l) ≤ mn pages (pages + 1).toNat := Int.ediv_le_self _ (Int.le_of_lt hm1)
  unfold wI
  rw [Int.natAbs_mul, Int.natAbs_mul]
  have h1 : (pages - t.l).natAbs ≤ 16 := by omega
  have h2 : (now - t.o).natAbs ≤ 10 ^ 30 := by omega
  have h3 : (mn pages (pages + 1).toNat / (pages + t.l)).natAbs ≤ 2 ^ 102 := by omega
  exact Nat.lt_of_le_of_lt (Nat.mul_le_mul (Nat.mul_le_mul h1 h2) h3) (by decide)
/-- the field of a rule, a half of k turned -/
def fK (k pages now : Int) (t : Tal) : Int := if k = 0 then t.b % 2 else if k = 1 then t.l else if k = 2 then t.c else if k = 3 then t.o else if k = 4 then t.l else if k = 6 then 0 - wI pages now t else 0
def rkK (x pages now : Int) (t : Tal) : Int := if x / 8 % 3 = 0 then 0 - fK (x % 8) pages now t else fK (x % 8) pages now t
def spRank (K : PySem.W.Frag) : Sp := fun vs H Q _ => ∃ (v : V) (x pages now : Int) (t : Tal), vs = [.int x, v, .int pages, .int now] ∧ TalAt H v t ∧ TOk pages now t ∧ PN pages now ∧ ∀ H', Same H H' → Q (.int (rkK x pages now t)) H'
theorem ok_rank (T : Txt K mg) : FO P w K mg base 1 T.a__law_rank T.fd__law_rank ["_law_cell", "_law_tally", "_law_pages", "_law_now_here"] (spRank K) := by
  have sc := sc__law_rank
  refine T.F__law_rank.okX sc (fun vs H Q E h => ?_) (fun cdv A outer s H vs Q E hr h => ?_)
  · obtain ⟨_, _, _, _, _, rfl, _⟩ := h
    rfl
  obtain ⟨v, x, pages, now, t, rfl, ⟨b, rfl, hb⟩, hok, hpn, q⟩ := h
  have hwb := wI_bd hok hpn
  obtain ⟨o7, o8, o1, o2, o5, o6, o3, o4⟩ := hok
  obtain ⟨hp1, hp2, hp3, hp4⟩ := hpn
  refine ⟨_, (pss_cons (ps_set (i := 4) sc.nd rfl (by first | exact Or.inl rfl | exact Or.inr rfl) pe_int)
      (pss_cons (ps_for (passes_of rfl) rfl (pi_range2 (by rfl) T.b_range (pa_cons (pv 2) (pa_cons (pe_op op_uAdd (pe_op op_uMul pe_int (pv 2)) pe_int) pa_nil))) (pg_name (i := 5) sc.nd rfl (by first | exact Or.inl rfl | exact Or.inr rfl)) (pss_one (ps_set (i := 4) sc.nd rfl (by first | exact Or.inl rfl | exact Or.inr rfl) (pe_op op_uMul (pv 4) (pv 5)))))
      (pss_cons (ps_set (i := 6) sc.nd rfl (by first | exact Or.inl rfl | exact Or.inr rfl) (pe_op op_fdivW (pv 4) (pe_op op_uAdd (pv 2) (pe_ix ix_seq (pv 1) pe_int (fun _ _ => rfl)))))
      (pss_cons (ps_set (i := 7) sc.nd rfl (by first | exact Or.inl rfl | exact Or.inr rfl) (pe_op op_uMul (pe_op op_uMul (pe_op op_sub (pv 2) (pe_ix ix_seq (pv 1) pe_int (fun _ _ => rfl))) (pe_op op_sub (pv 3) (pe_ix ix_seq (pv 1) pe_int (fun _ _ => rfl)))) (pv 6)))
      (pss_cons (ps_set (i := 8) sc.nd rfl (by first | exact Or.inl rfl | exact Or.inr rfl) (pe_lst (pa_cons (pe_op op_mod (pe_ix ix_seq (pv 1) pe_int (fun _ _ => rfl)) pe_int) (pa_cons (pe_ix ix_seq (pv 1) pe_int (fun _ _ => rfl)) (pa_cons (pe_ix ix_seq (pv 1) pe_int (fun _ _ => rfl)) (pa_cons (pe_ix ix_seq (pv 1) pe_int (fun _ _ => rfl)) pa_nil))))))
      (pss_cons (ps_set (i := 9) sc.nd rfl (by first | exact Or.inl rfl | exact Or.inr rfl) (pe_ix ix_seq (pe_op op_uAdd (pv 8) (pe_lst (pa_cons (pe_ix ix_seq (pv 1) pe_int (fun _ _ => rfl)) (pa_cons pe_int (pa_cons (pe_op op_sub pe_int (pv 7)) (pa_cons pe_int pa_nil)))))) (pe_op op_mod (pv 0) pe_int) (fun _ _ => rfl)))
      (pss_cons (ps_if (pt_cmpR (op_uEq hr.units) (pe_op op_mod (pe_op op_fdivW (pv 0) pe_int) pe_int) pe_int (nomark _)) (pss_one (ps_ret (pe_op op_sub pe_int (pv 9)))) pss_nil)
      (pss_one (ps_ret (pv 9)))))))))), ?_⟩
  unfold Tal.vs at hb
  walk_at "begin"
  walk_at "go"
  refine x_seq ?_
  walk_at "go"
  refine x_frR2 (by omega) (fun i σ H2 => H2 = H ∧ ∃ (v5 : Option V), σ = [some (.int x), some (.ref b), some (.int pages), some (.int now), some (.int (mn pages i)), v5, none, none, none, none] ∧ i ≤ 17)
    ⟨rfl, _, rfl, Nat.zero_le _⟩ ?_ ?_
  · intro i σ H2 hi ⟨hH, v5, hσ, hi17⟩
    subst hσ hH
    walk_at "go"
    exact ⟨rfl, _, rfl, by omega⟩
  · intro σ H2 ⟨hH, v5, hσ, hi17⟩
    subst hσ hH
    rw [show (2 * pages + 1 - pages).toNat = (pages + 1).toNat by omega]
    have hm1 := mn_pos hp1 (pages + 1).toNat
    have hm2 : mn pages (pages + 1).toNat < 2 ^ 102 + 1 := by
      have h1 := mn_bd hp1 hp2 (pages + 1).toNat (by omega)
      have h2 : (64 : Int) ^ (pages + 1).toNat ≤ 64 ^ 17 := (by decide : ∀ k, k ≤ 17 → (64 : Int) ^ k ≤ 64 ^ 17) _ (by omega)
      have h3 : (64 : Int) ^ 17 = 2 ^ 102 := by decide
      omega
    have hd1 : 0 ≤ mn pages (pages + 1).toNat / (pages + t.l) := Int.ediv_nonneg (Int.le_of_lt hm1) (by omega)
    have hd2 : mn pages (pages + 1).toNat / (pages + t.l) ≤ mn pages (pages + 1).toNat := Int.ediv_le_self _ (Int.le_of_lt hm1)
    have hx1 : ((pages - t.l) * (now - t.o)).natAbs < 2 ^ 250 := by
      rw [Int.natAbs_mul]
      have h1 : (pages - t.l).natAbs ≤ 16 := by omega
      have h2 : (now - t.o).natAbs ≤ 10 ^ 30 := by omega
      exact Nat.lt_of_le_of_lt (Nat.mul_le_mul h1 h2) (by decide)
    have hx2 : (mn pages (pages + 1).toNat / (pages + t.l)).natAbs < 2 ^ 250 := by
      have : (mn pages (pages + 1).toNat / (pages + t.l)).natAbs ≤ 2 ^ 102 := by omega
      exact Nat.lt_of_le_of_lt this (by decide)
    walk_at "go"
    rename_i pS H1 hpS hs1 hn1
    have hb1 := hs1 _ _ hb
    have hk8 : 0 ≤ x % 8 ∧ x % 8 < 8 := by omega
    have hat : atI ([.int (t.b % 2), .int t.l, .int t.c, .int t.o] ++ [.int t.l, .int 0, .int (0 - (pages - t.l) * (now - t.o) * (mn pages (pages + 1).toNat / (pages + t.l))), .int 0] : List V) (x % 8) = some (.int (fK (x % 8) pages now t)) := by
      have : x % 8 = 0 ∨ x % 8 = 1 ∨ x % 8 = 2 ∨ x % 8 = 3 ∨ x % 8 = 4 ∨ x % 8 = 5 ∨ x % 8 = 6 ∨ x % 8 = 7 := by omega
      rcases this with h | h | h | h | h | h | h | h <;> rw [h] <;> rfl
    have hfb : (fK (x % 8) pages now t).natAbs < 2 ^ 250 := by
      unfold fK
      repeat' split
      all_goals omega
    walk_at "go"
    rename_i p2 HA hp2 hs2 hn2 p3 HB hp3 hs3 hn3
    walk_at "if"
    refine x_iteD (fun h => ?_) (fun h => ?_)
    · walk_at "go"
      have e : rkK x pages now t = 0 - fK (x % 8) pages now t := if_pos h
      rw [← e]
      exact q HB ((hs1.trans hs2).trans hs3)
    · walk_at "go"
      have e : rkK x pages now t = fK (x % 8) pages now t := if_neg h
      rw [← e]
      exact q HB ((hs1.trans hs2).trans hs3)
theorem gB_lt {k pages now : Int} (hp : 1 ≤ pages) {t u : Tal} (ht : 0 ≤ t.l ∧ t.l ≤ pages) (hu : 0 ≤ u.l ∧ u.l ≤ pages) : gB k pages now t u = decide (fK k pages now t < fK k pages now u) := by
  unfold gB fK
  by_cases h0 : k = 0
  · rw [if_pos h0, if_pos h0, if_pos h0]
  rw [if_neg h0, if_neg h0, if_neg h0]
  by_cases h1 : k = 1
  · rw [if_pos h1, if_pos h1, if_pos h1]
    rfl
  rw [if_neg h1, if_neg h1, if_neg h1]
  by_cases h2 : k = 2
  · rw [if_pos h2, if_pos h2, if_pos h2]
  rw [if_neg h2, if_neg h2, if_neg h2]
  by_cases h3 : k = 3
  · rw [if_pos h3, if_pos h3, if_pos h3]
    rfl
  rw [if_neg h3, if_neg h3, if_neg h3]
  by_cases h4 : k = 4
  · rw [if_pos h4, if_pos h4, if_pos h4]
    rfl
  rw [if_neg h4, if_neg h4, if_neg h4]
  by_cases h5 : k = 5
  · rw [if_pos h5, if_neg (by omega), if_neg (by omega)]
    rfl
  rw [if_neg h5]
  by_cases h6 : k = 6
  · rw [if_pos h6, if_pos h6, if_pos h6, ← show rkW pages now t = 0 - wI pages now t from rfl, ← show rkW pages now u = 0 - wI pages now u from rfl, rkW_lt hp ht hu]
  · rw [if_neg h6, if_neg h6, if_neg h6]
    rfl
theorem gM_lt {x pages now : Int} (hp : 1 ≤ pages) {t u : Tal} (ht : 0 ≤ t.l ∧ t.l ≤ pages) (hu : 0 ≤ u.l ∧ u.l ≤ pages) : gM x pages now t u = decide (rkK x pages now t < rkK x pages now u) := by
  unfold gM rkK
  by_cases h : x / 8 % 3 = 0
  · rw [if_pos h, if_pos h, if_pos h, gB_lt hp hu ht]
    exact decide_eq_decide.mpr (by omega)
  · rw [if_neg h, if_neg h, if_neg h]
    exact gB_lt hp ht hu
/-- the rules, one behind the other, tell what the order of the rows of ranks tells -/
theorem ordG_lex {pages now : Int} (hp : 1 ≤ pages) {t u : Tal} (ht : 0 ≤ t.l ∧ t.l ≤ pages) (hu : 0 ≤ u.l ∧ u.l ≤ pages) : ∀ cs : List Int, ordG (cs.map gM) pages now t u = lexI (cs.map fun c => rkK c pages now t) (cs.map fun c => rkK c pages now u)
  | [] => rfl
  | c :: cs => by
    show (if gM c pages now t u = true then true else if gM c pages now u t = true then false else ordG (cs.map gM) pages now t u) = (if rkK c pages now t = rkK c pages now u then lexI (cs.map fun c => rkK c pages now t) (cs.map fun c => rkK c pages now u) else decide (rkK c pages now t < rkK c pages now u))
    rw [gM_lt hp ht hu, gM_lt hp hu ht, ordG_lex hp ht hu cs]
    by_cases a : rkK c pages now t < rkK c pages now u
    · rw [if_pos (decide_eq_true a), if_neg (by omega), decide_eq_true a]
    · rw [if_neg (by rw [decide_eq_false a]; decide)]
      by_cases b : rkK c pages now u < rkK c pages now t
      · rw [if_pos (decide_eq_true b), if_neg (by omega), decide_eq_false a]
      · rw [if_neg (by rw [decide_eq_false b]; decide), if_pos (by omega)]
/-! ### a number of rules that is refused -/
def spRefusedO : Sp := fun vs H Q _ => ∃ n : Int, vs = [.int n] ∧ (n = 0 ∨ (9 ≤ n ∧ n ≤ 12)) ∧ ∀ H', Same H H' → Q (.bl true) H'
theorem ok_refused (T : Txt K mg) : FO P w K mg base 6 T.a__law_refused T.fd__law_refused ["_law_many"] spRefusedO := by
  have sc := sc__law_refused
  refine T.F__law_refused.okX sc (fun vs H Q E h => ?_) (fun cdv A outer s H vs Q E hr h => ?_)
  · obtain ⟨_, rfl, _⟩ := h
    rfl
  obtain ⟨n, rfl, hn, q⟩ := h
  refine ⟨_, (pss_cons (ps_set (i := 1) sc.nd rfl (by first | exact Or.inl rfl | exact Or.inr rfl) pe_non)
      (pss_cons (ps_tryA (i := 3) rfl rfl sc.nd rfl rfl ⟨rfl, rfl, Or.inl T.g_WornError⟩ (takes_of rfl rfl rfl rfl) (fun W1 pn1 xe1 hW1 hP1 => (pss_one (ps_expr (pe_mkS T.mk_Order (ok_Order_init T) (hr.mono (by decide)) (by rfl) T.g_Order T.bd_Order_init .nil (passAt hW1) (pa_cons (pe_lc (own := [("_law_k", 2)]) (by rfl) sc.nd (pi_range1 (by rfl) T.b_range (pa_cons (pv 0) pa_nil)) (blkOk_by (own := [("_law_k", 2)]) (N := N__law_refused) (sc := defScope s__law_refused) (by decide +kernel)) (fun _ _ _ _ _ => (pg_name (i := 2) sc.nd rfl (by first | exact Or.inl rfl | exact Or.inr rfl))) (fun _ _ _ _ _ => pts_nil) (fun _ _ _ _ _ => (pe_mkN T.mk0_Rule (by rfl) T.g_Rule))) pa_nil))))) (fun a1 oe1 cls1 d1 pn1 hz1 hv1 => (pss_one (ps_set (i := 1) sc.nd rfl (by first | exact Or.inl rfl | exact Or.inr rfl) (pe_lst (pa_cons (pe_callB (cr_isXC hz1 hv1) (by rfl) T.b_isinstance bt_isinstance (pa_cons (pv 3) (pa_cons (pe_glob (v := .ref T.C_NoRule) rfl T.g_NoRule rfl) pa_nil))) (pa_cons (pe_callB (cr_isX hz1 hv1) (by rfl) T.b_isinstance bt_isinstance (pa_cons (pv 3) (pa_cons (pe_bltn (v := .ty "ValueError") (by rfl) T.b_ValueError bt_ValueError rfl) pa_nil))) (pa_cons (pe_callB (cr_isXC hz1 hv1) (by rfl) T.b_isinstance bt_isinstance (pa_cons (pv 3) (pa_cons (pe_glob (v := .ref T.C_NoRace) rfl T.g_NoRace rfl) pa_nil))) pa_nil))))))))
      (pss_one (ps_ret (pe_cmpR (op_uEq hr.units) (pv 1) (pe_lst (pa_cons pe_bl (pa_cons pe_bl (pa_cons pe_bl pa_nil)))) (nomark _)))))), ?_⟩
  walk_at "begin"
  walk_at "go"
  refine x_lcR1K (fun i acc H' => acc.length = i) (fun i acc H H' _ h => h) ⟨by omega, by omega⟩ rfl ?_ ?_
  · intro i acc H' hi hs' ha NY NN hY hN
    dsimp only [wipe]
    walk_at "go"
    refine ⟨rfl, ?_⟩
    walk_at "go"
    rename_i r dx H1 hr1 hdx hne hs1 hn1 hdd
    refine hY _ _ hs1 ?_
    show (acc ++ [_]).length = i + 1
    rw [List.length_append, ha]
    rfl
  intro p acc H1 hp1 hs1 hn1 hacc
  walk_at "go"
  rename_i r dx H2 hr1 hdx hne hs2 hn2 hdd
  refine ⟨r, p, dx, acc, rfl, hn2, SqL.of (hs2 _ _ hn1), fun z => absurd z (by omega), fun _ => ?_⟩
  refine x_asT T.em_NoRule_WornError fun a2 na2 => ?_
  walk_at "go"
  refine x_isXC ?_ T.ec_NoRule T.kc_NoRule_NoRule
  walk_at "go"
  refine x_isX ?_ T.ec_NoRule T.ki_NoRule_ValueError
  walk_at "go"
  refine x_isXC ?_ T.ec_NoRule T.kc_NoRule_NoRace
  walk_at "go"
  rename_i l1 H3 hp3 hs3 hn3 l2 H4 hp4 hs4 hn4
  have dl : ∀ {r : Addr}, H4 r = some (.lst [V.bl true, V.bl true, V.bl false]) → Dp K H4 (.ref r) (.list [.bool true, .bool true, .bool false]) := fun h => .lst (SqL.of h) (.cons (.bl _) (.cons (.bl _) (.cons (.bl _) .nil)))
  refine x_eqS2 (dl (hs4 _ _ hn3)) (dl hn4) (Sh.list (k := 8) fun d hd => ?_) ?_
  · simp only [List.mem_cons, List.not_mem_nil, or_false] at hd
    rcases hd with rfl | rfl | rfl <;> exact Sh.bl
  exact q H4 (((hs1.trans hs2).trans hs3).trans hs4)
/-! ### the law's own way to the first of the least -/
def spFirstL (K : PySem.W.Frag) : Sp := fun vs H Q _ => ∃ (p r : Addr) (ts : List Tal) (f : Tal → List Int) (S : List Addr) (xs : List V), vs = [.ref p, .ref r] ∧ TL H p ts ∧ H r = some (.lst xs) ∧ LLr S H xs (ts.map f) ∧ ts ≠ [] ∧ ∀ H', Same H H' → Q (.int (pick (fun t u => lexI (f t) (f u)) ts).b) H'
theorem ok_first (T : Txt K mg) : FO P w K mg base 1 T.a__law_first T.fd__law_first ["_law_tallies_here", "_law_ranks"] (spFirstL K) := by
  have sc := sc__law_first
  refine T.F__law_first.okX sc (fun vs H Q E h => ?_) (fun cdv A outer s H vs Q E hr h => ?_)
  · obtain ⟨_, _, _, _, _, _, rfl, _⟩ := h
    rfl
  obtain ⟨p, r, ts, f, S, xs, rfl, ⟨vs, hvs, hall⟩, hS, hLL, hne, q⟩ := h
  refine ⟨_, (pss_cons (ps_set (i := 2) sc.nd rfl (by first | exact Or.inl rfl | exact Or.inr rfl) (pe_callB (cr_minL hr.units (by rfl)) (by rfl) T.b_min bt_min (pa_cons (pv 1) pa_nil)))
      (pss_cons (ps_for (passes_of rfl) rfl (pi_zip (by rfl) T.b_zip (pa_cons (pv 0) (pa_cons (pv 1) pa_nil))) (pg_tup (by rfl) (pgs_cons (pg_name (i := 3) sc.nd rfl (by first | exact Or.inl rfl | exact Or.inr rfl)) (pgs_cons (pg_name (i := 4) sc.nd rfl (by first | exact Or.inl rfl | exact Or.inr rfl)) pgs_nil))) (pss_one (ps_if (pt_cmpR (op_uEq hr.units) (pv 4) (pv 2) (nomark _)) (pss_one (ps_ret (pe_ix ix_seq (pv 3) pe_int (fun _ _ => rfl)))) pss_nil)))
      (pss_one (ps_ret pe_non)))), ?_⟩
  obtain ⟨i0, hF⟩ := pick_firstR lexI lexI_ref lexI_tr lexI_as f ts hne
  generalize pick (fun t u => lexI (f t) (f u)) ts = b at hF q
  walk_at "begin"
  walk_at "go"
  refine x_minL hS hLL (fun z => hne (List.map_eq_nil_iff.mp z)) fun t row hrow hmin ht => ?_
  have em : row = f b := by
    obtain ⟨u, hu, rfl⟩ := List.mem_map.mp hrow
    exact lexI_eq (hF.le u hu) (hmin (f b) (List.mem_map.mpr ⟨b, List.mem_of_getElem? hF.at_, rfl⟩))
  subst em
  walk_at "go"
  refine x_seq ?_
  walk_at "go"
  have hxl : vs.length = xs.length := by rw [hall.1, hLL.1, List.length_map]
  refine x_frZ (SqL.of hvs) (SqL.of hS) hxl (fun i σ H2 => ∃ (v3 v4 : Option V), σ = [some (.ref p), some (.ref r), some (.ref t), v3, v4] ∧ Same H H2 ∧ i ≤ i0)
    ⟨_, _, rfl, fun _ _ h => h, Nat.zero_le _⟩ (fun i σ H2 ⟨_, _, _, hs2, _⟩ => ⟨hs2.seq (SqL.of hvs), hs2.seq (SqL.of hS)⟩) ?_ ?_
  · intro i x y σ H2 H3 hx hy ⟨v3, v4, hσ, hs2, hi⟩ hs3
    subst hσ
    obtain ⟨u, hti, hxt⟩ := hall.get hx
    obtain ⟨ty, row, hrw, rfl, hty⟩ := hLL.get hy
    rw [List.getElem?_map, hti] at hrw
    cases hrw
    have s03 := hs2.trans hs3
    dsimp only [List.set]
    walk_at "go"
    refine x_eqL (SqL.of (s03 _ _ hty)) (SqL.of (s03 _ _ ht)) ?_
    walk_at "go"
    refine x_iteD (fun h => ?_) (fun h => ?_)
    · have e : i = i0 := by
        rcases Nat.lt_or_ge i i0 with hlt | hge
        · exact absurd h (hF.lt i u hlt hti)
        · omega
      subst e
      have e2 : u = b := Option.some.inj (hti.symm.trans hF.at_)
      subst e2
      obtain ⟨a, rfl, hxt⟩ := hxt.mono (TupS.of s03)
      walk_at "go"
      exact q _ s03
    · walk_at "go"
      refine ⟨_, _, rfl, s03, ?_⟩
      rcases Nat.lt_or_ge i i0 with hlt | hge
      · exact hlt
      · have e : i = i0 := by omega
        subst e
        have e2 : u = b := Option.some.inj (hti.symm.trans hF.at_)
        subst e2
        exact absurd rfl h
  · intro σ H2 ⟨v3, v4, hσ, hs2, hi⟩
    have := (List.getElem?_eq_some_iff.mp hF.at_).1
    rw [hall.1] at hi
    omega
/-! ### the numbers of the rules -/
theorem cut_m1 {xs : List V} (h : 1 ≤ xs.length) : cutV xs none (some (-1)) = xs.take (xs.length - 1) := by
  unfold cutV
  have e1 : HT.sIx xs.length 0 none = 0 := rfl
  have e2 : HT.sIx xs.length xs.length (some (-1)) = xs.length - 1 := by
    unfold HT.sIx
    simp
    omega
  rw [e1, e2, List.drop_zero, Nat.sub_zero]
theorem cut_l1 {xs : List V} (h : 1 ≤ xs.length) : cutV xs (some (-1)) none = xs.drop (xs.length - 1) := by
  unfold cutV
  have e1 : HT.sIx xs.length xs.length none = xs.length := rfl
  have e2 : HT.sIx xs.length 0 (some (-1)) = xs.length - 1 := by
    unfold HT.sIx
    simp
    omega
  rw [e1, e2]
  exact List.take_of_length_le (by rw [List.length_drop]; exact Nat.le_refl _)
def spCells (K : PySem.W.Frag) : Sp := fun vs H Q _ => ∃ (a : Addr) (ns : List Int), vs = [.ref a] ∧ SqL K H a (ns.map V.int) ∧ ∀ (p : Addr) (cs : List Int) (H' : Hp), Same H H' → H p = none → H' p = some (.lst (cs.map V.int)) → 1 ≤ cs.length → cs.length ≤ 8 → Q (.ref p) H'
theorem ok_cells (T : Txt K mg) : FO P w K mg base 2 T.a__law_cells T.fd__law_cells ["_law_script"] (spCells K) := by
  have sc := sc__law_cells
  refine T.F__law_cells.okX sc (fun vs H Q E h => ?_) (fun cdv A outer s H vs Q E hr h => ?_)
  · obtain ⟨_, _, rfl, _⟩ := h
    rfl
  obtain ⟨a, ns, rfl, hS, q⟩ := h
  refine ⟨_, (pss_cons (ps_setLc (i := 1) (own := [("_law_k", 2)]) (by rfl) sc.nd rfl rfl (sw_true rfl rfl rfl (by decide +kernel)) (pi_range1 (by rfl) T.b_range (pa_cons (pe_op op_uAdd pe_int (pe_op op_mod (pe_callS (ok_cell_at T) (hr.mono (by decide)) (by rfl) T.g__law_cell_at T.k__law_cell_at T.bd__law_cell_at (passAt (takes_of rfl rfl rfl rfl)) (pa_cons (pv 0) (pa_cons pe_int pa_nil))) pe_int)) pa_nil)) (blkOk_by (own := [("_law_k", 2)]) (N := N__law_cells) (sc := defScope s__law_cells) (by decide +kernel)) (fun _ _ _ _ _ => (pg_name (i := 2) sc.nd rfl (by first | exact Or.inl rfl | exact Or.inr rfl))) (fun _ _ _ _ _ => pts_nil) (fun _ _ _ _ _ => (pe_op op_mod (pe_callS (ok_cell_at T) (hr.mono (by decide)) (by rfl) T.g__law_cell_at T.k__law_cell_at T.bd__law_cell_at passL2 (pa_cons (pv 0) (pa_cons (pe_op (K_add (K := K)) pe_int (pv 2)) pa_nil))) (pe_op op_pow pe_int pe_int))))
      (pss_cons (ps_if (pt_cmpR (op_uEq hr.units) (pe_op op_mod (pe_op op_fdivW (pe_callS (ok_cell_at T) (hr.mono (by decide)) (by rfl) T.g__law_cell_at T.k__law_cell_at T.bd__law_cell_at (passAt (takes_of rfl rfl rfl rfl)) (pa_cons (pv 0) (pa_cons pe_int pa_nil))) pe_int) pe_int) pe_int (nomark _)) (pss_one (ps_set (i := 1) sc.nd rfl (by first | exact Or.inl rfl | exact Or.inr rfl) (pe_op op_uAdd (pe_lc (own := [("_law_cell", 3)]) (by rfl) sc.nd (pi_list (pe_slice sl_u (pv 1) po_none (po_some (pe_un un_neg pe_int)))) (blkOk_by (own := [("_law_cell", 3)]) (N := N__law_cells) (sc := defScope s__law_cells) (by decide +kernel)) (fun _ _ _ _ _ => (pg_name (i := 3) sc.nd rfl (by first | exact Or.inl rfl | exact Or.inr rfl))) (fun _ _ _ _ _ => pts_nil) (fun _ _ _ _ _ => (pe_ix (K_ix (K := K)) (pe_lst (pa_cons pe_int (pa_cons pe_int pa_nil))) (pe_op op_mod (pv 3) pe_int) (fun _ _ => rfl)))) (pe_slice sl_u (pv 1) (po_some (pe_un un_neg pe_int)) po_none)))) pss_nil)
      (pss_one (ps_ret (pv 1))))), ?_⟩
  walk_at "begin"
  walk_at "go"
  have hm : 1 ≤ 1 + cl ns 18 % 8 ∧ 1 + cl ns 18 % 8 ≤ 8 := by omega
  generalize 1 + cl ns 18 % 8 = m at hm ⊢
  refine x_lcR1K (fun i acc H' => ∃ cs : List Int, acc = cs.map V.int ∧ cs.length = i) (fun i acc H H' _ h => h) ⟨by omega, by omega⟩ ⟨[], rfl, rfl⟩ ?_ ?_
  · intro i acc H' hi hs' ⟨cs, hcs, hlen⟩ NY NN hY hN
    dsimp only [wipe]
    walk_at "go"
    refine ⟨rfl, ?_⟩
    have hS' := hs'.seq hS
    walk_at "go"
    refine hY _ _ (fun _ _ h => h) ⟨cs ++ [cl ns (19 + (i : Int)) % 10 ^ 6], ?_, by rw [List.length_append, hlen]; rfl⟩
    rw [hcs, List.map_append]
    rfl
  intro p acc H1 hp1 hs1 hn1 ⟨cs, hcs, hlen⟩
  subst hcs
  walk_at "go"
  walk_at "if"
  refine x_iteD (fun h => ?_) (fun h => ?_)
  · walk_at "go"
    rename_i pc H2 hpc hs2 hn2
    have hcl : (cs.map V.int).length = m.toNat := by rw [List.length_map, hlen]
    rw [cut_m1 (by omega), ← List.map_take] at hn2
    refine x_lcLK (SqL.of hn2) (fun i acc H' => ∃ ds : List Int, acc = ds.map V.int ∧ ds.length = i) (fun i acc H H' _ h => h) (small64 (by rw [List.length_map, List.length_take]; omega)) ⟨[], rfl, rfl⟩ ?_ ?_
    · intro i x acc H' hx hs' ⟨ds, hds, hlen2⟩ NY NN hY hN
      obtain ⟨c, rfl⟩ : ∃ c, x = V.int c := by
        rw [List.getElem?_map] at hx
        cases hc : (List.take ((List.map V.int cs).length - 1) cs)[i]? with
        | none => rw [hc] at hx; cases hx
        | some c => rw [hc] at hx; exact ⟨c, (Option.some.inj hx).symm⟩
      dsimp only [wipe]
      walk_at "go"
      refine ⟨rfl, ?_⟩
      obtain ⟨z, hz⟩ : ∃ z : Int, [V.int 13, V.int 15].getD (c % 2).toNat V.non = V.int z := by
        have : c % 2 = 0 ∨ c % 2 = 1 := by omega
        rcases this with e | e <;> rw [e]
        · exact ⟨13, rfl⟩
        · exact ⟨15, rfl⟩
      walk_at "go"
      rename_i pl H4 hpl hs4 hn4
      rw [hz]
      refine hY _ _ hs4 ⟨ds ++ [z], ?_, by rw [List.length_append, hlen2]; rfl⟩
      rw [hds, List.map_append]
      rfl
    · intro p2 acc H3 hp3 hs3 hn3 ⟨ds, hds, hlen2⟩
      subst hds
      rw [List.length_map, List.length_take, List.length_map] at hlen2
      have hcv := cutV_length (cs.map V.int) (some (-1)) none
      have hsz : (List.map V.int ds).length + (cutV (List.map V.int cs) (some (-1)) none).length ≤ sizeLine := Nat.le_of_lt (small64 (by rw [List.length_map]; omega))
      walk_at "go"
      rename_i p4 H4 hp4 hs4 hn4 p5 H5 hp5 hs5 hn5
      rw [cut_l1 (by omega), ← List.map_drop, ← List.map_append] at hn5
      have s15 := ((hs1.trans hs2).trans hs3).trans (hs4.trans hs5)
      refine q p5 _ H5 s15 ?_ hn5 ?_ ?_
      · exact same_none (((hs1.trans hs2).trans hs3).trans hs4) hp5
      · rw [List.length_append, List.length_drop, List.length_map]; omega
      · rw [List.length_append, List.length_drop, List.length_map]; omega
  · walk_at "go"
    exact q p cs H1 hs1 hp1 hn1 (by omega) (by omega)
/-! ### the rule turned -/
def rowK (cs : List Int) (pages now : Int) (t : Tal) : List Int := cs.map fun c => rkK c pages now t
theorem atI_mapR {ts : List Tal} {f : Tal → List Int} {S : List Addr} {H : Hp} {xs : List V} (h : LLr S H xs (ts.map f)) {i : Nat} (hi : i < ts.length) : ∃ t, xs[i]? = some (.ref t) ∧ H t = some (.lst ((f ts[i]).map V.int)) := by
  have hl : i < xs.length := by rw [h.1, List.length_map]; exact hi
  obtain ⟨t, row, e, ex, ht⟩ := h.get (List.getElem?_eq_getElem hl)
  rw [List.getElem?_map, List.getElem?_eq_getElem hi] at e
  cases e
  exact ⟨t, by rw [List.getElem?_eq_getElem hl, ex], ht⟩
def spTurnedL (P : Program) (w : World) (K : PySem.W.Frag) (mg : Str → Option Value) (base : Heap) : Sp := fun vs H Q _ => ∃ (ru p r : Addr) (pages now : Int) (ts : List Tal) (cs : List Int) (rf : List Addr) (S : List Addr) (xs : List V), vs = [.ref ru, .ref p, .ref r, .int pages, .int now] ∧
  RuleOb P w K mg base 6 (ordG (cs.map gM)) H rf ru ∧ TL H p ts ∧ H r = some (.lst xs) ∧ LLr S H xs (ts.map (rowK cs pages now)) ∧ ts ≠ [] ∧ (∀ t ∈ ts, TOk pages now t) ∧ ts.length ≤ 16 ∧ PN pages now ∧ ∀ H', Same H H' → Q (.bl true) H'
theorem ok_turned_good (T : Txt K mg) : FO P w K mg base 19 T.a__law_turned_good T.fd__law_turned_good ["_law_rule", "_law_tallies_here", "_law_ranks", "_law_pages", "_law_now_here"] (spTurnedL P w K mg base) := by
  have sc := sc__law_turned_good
  refine T.F__law_turned_good.okX sc (fun vs H Q E h => ?_) (fun cdv A outer s H vs Q E hr h => ?_)
  · obtain ⟨_, _, _, _, _, _, _, _, _, _, rfl, _⟩ := h
    rfl
  obtain ⟨ru, p, r, pages, now, ts, cs, rf, S, xs, rfl, hRu, ⟨vs, hvs, hall⟩, hrx, hLL, hne, hok, hlen, hpn, q⟩ := h
  refine ⟨_, (pss_cons (ps_set (i := 5) sc.nd rfl (by first | exact Or.inl rfl | exact Or.inr rfl) (pe_mkS T.mk_Turned (ok_Turned_init T) (hr.mono (by decide)) (by rfl) T.g_Turned T.bd_Turned_init .nil (passAt (takes_of rfl rfl rfl rfl)) (pa_cons (pv 0) pa_nil)))
      (pss_cons (ps_if (pt_cmpR (op_uNe hr.units) (pe_methD (k := 17) (pv 5) (hr.mono (by decide)) (passAt (takes_of rfl rfl rfl rfl)) (pa_cons (pe_ix ix_seq (pv 1) pe_int (fun _ _ => rfl)) (pa_cons (pe_ix ix_seq (pv 1) (pe_un un_neg pe_int) (fun _ _ => rfl)) (pa_cons (pv 3) (pa_cons (pv 4) pa_nil))))) (pe_cmpR (op_gtL hr.units) (pe_ix ix_seq (pv 2) pe_int (fun _ _ => rfl)) (pe_ix ix_seq (pv 2) (pe_un un_neg pe_int) (fun _ _ => rfl)) (nomark _)) (nomark _)) (pss_one (ps_ret pe_bl)) pss_nil)
      (pss_cons (ps_set (i := 6) sc.nd rfl (by first | exact Or.inl rfl | exact Or.inr rfl) (pe_callB (cr_maxL hr.units (by rfl)) (by rfl) T.b_max bt_max (pa_cons (pv 2) pa_nil)))
      (pss_cons (ps_setLc (i := 7) (own := [("_law_tally", 8), ("_law_rank_here", 9)]) (by rfl) sc.nd rfl rfl (sw_true rfl rfl rfl (by decide +kernel)) (pi_zip (by rfl) T.b_zip (pa_cons (pv 1) (pa_cons (pv 2) pa_nil))) (blkOk_by (own := [("_law_tally", 8), ("_law_rank_here", 9)]) (N := N__law_turned_good) (sc := defScope s__law_turned_good) (by decide +kernel)) (fun _ _ _ _ _ => (K_gtup (K := K) (n := 2) (by rfl) (pgs_cons (pg_name (i := 8) sc.nd rfl (by first | exact Or.inl rfl | exact Or.inr rfl)) (pgs_cons (pg_name (i := 9) sc.nd rfl (by first | exact Or.inl rfl | exact Or.inr rfl)) pgs_nil)))) (fun _ _ _ _ _ => (pts_one (pt_cmpR (K_eq (K := K) hr.units) (pv 9) (pv 6) (nomark _)))) (fun _ _ _ _ _ => (pe_ix (K_ix (K := K)) (pv 8) pe_int (fun _ _ => rfl))))
      (pss_one (ps_ret (pe_cmpR (op_uEq hr.units) (pe_methD (k := 18) (pv 5) (hr.mono (by decide)) (passAt (takes_of rfl rfl rfl rfl)) (pa_cons (pe_callTy ct_list (by rfl) T.b_list bt_list (pa_cons (pv 1) pa_nil)) (pa_cons (pv 3) (pa_cons (pv 4) pa_nil)))) (pe_ix ix_seq (pv 7) pe_int (fun _ _ => rfl)) (nomark _)))))))), ?_⟩
  have hpos : 0 < ts.length := List.length_pos_iff.mpr hne
  obtain ⟨i1, hi1, e1⟩ := atI_any ts.length hpos (-1) (.inr rfl)
  have i1v : i1 < vs.length := hall.1 ▸ hi1
  have i0v : 0 < vs.length := hall.1 ▸ hpos
  have hxl : xs.length = ts.length := by rw [hLL.1, List.length_map]
  obtain ⟨al, eal, hal⟩ := hall.2 i1 _ _ (List.getElem?_eq_getElem i1v) (List.getElem?_eq_getElem hi1)
  obtain ⟨af, eaf, haf⟩ := hall.2 0 _ _ (List.getElem?_eq_getElem i0v) (List.getElem?_eq_getElem hpos)
  have ga1 : atI vs (-1) = some (.ref al) := by rw [e1 vs hall.1, List.getElem?_eq_getElem i1v, eal]
  have ga0 : atI vs 0 = some (.ref af) := by rw [← eaf]; exact atI_nat (List.getElem?_eq_getElem i0v)
  obtain ⟨t1, ex1, ht1⟩ := atI_mapR hLL hi1
  obtain ⟨t0, ex0, ht0⟩ := atI_mapR hLL hpos
  have gr1 : atI xs (-1) = some (.ref t1) := by rw [e1 xs hxl, ex1]
  have gr0 : atI xs 0 = some (.ref t0) := atI_nat ex0
  have hp1 := hpn.1
  have kl := hok ts[i1] (List.getElem_mem hi1)
  have kf := hok ts[0] (List.getElem_mem hpos)
  walk_at "begin"
  walk_at "go"
  rename_i rT dx H2 hr1 hdx hne2 hs2 hn2 hdd
  refine ⟨rT, dx, ru, rfl, hn2, fun H3 hO3 hI3 => ⟨rfl, ?_⟩⟩
  have s03 : Same H H3 := Off.same1 hs2 hO3 hr1
  have hRT : RuleOb P w K mg base 17 (fun pages now t u => ordG (cs.map gM) pages now u t) H3 (rT :: rf) rT := RuleOb.up (rob_Turned T hI3 (hRu.mono s03)) (by decide)
  have hRT0 := hRT
  obtain ⟨_, _, C, dxx, fs, I, hC, hl1, hl2, st, hI, hM⟩ := hRT
  rw [hI3] at hC
  cases hC
  have hvs3 := s03 _ _ hvs
  have hrx3 := s03 _ _ hrx
  walk_at "go"
  walk_at "if"
  refine x_mtK hI3 hM rfl ?_
  walk_at "go"
  refine ⟨_, _, ts[0], ts[i1], pages, now, rfl, hI, ⟨af, rfl, s03 _ _ haf⟩, ⟨al, rfl, s03 _ _ hal⟩, kf, kl, hpn, fun H4 hs4 => ?_⟩
  have s04 := s03.trans hs4
  have hrx4 := s04 _ _ hrx
  walk_at "go"
  refine x_gtL (SqL.of (s04 _ _ ht0)) (SqL.of (s04 _ _ ht1)) ?_
  have hz : (fun pages now t u => ordG (cs.map gM) pages now u t) pages now ts[0] ts[i1] = lexI (rowK cs pages now ts[i1]) (rowK cs pages now ts[0]) := ordG_lex hp1 ⟨kl.2.2.1, kl.2.2.2.1⟩ ⟨kf.2.2.1, kf.2.2.2.1⟩ cs
  rw [hz]
  walk_at "go"
  rw [decide_eq_true rfl]
  walk_at "go"
  have hLL4 := hLL.off (Off.of s04)
  refine x_maxL hrx4 hLL4 (fun z => hne (List.map_eq_nil_iff.mp z)) fun t row hrow hmax ht => ?_
  obtain ⟨i0, hF⟩ := pick_firstR (fun x y => lexI y x) lexI_ref (fun h1 h2 => lexI_tr h2 h1) lexI_as (rowK cs pages now) ts hne
  have hpk : pick (fun t u => ordG (cs.map gM) pages now u t) ts = pick (fun t u => lexI (rowK cs pages now u) (rowK cs pages now t)) ts := pick_congr (A := TOk pages now) (g := fun t u => lexI (rowK cs pages now u) (rowK cs pages now t)) (fun t u k1 k2 => ordG_lex hp1 ⟨k2.2.2.1, k2.2.2.2.1⟩ ⟨k1.2.2.1, k1.2.2.2.1⟩ cs) _ hok
  generalize pick (fun t u => lexI (rowK cs pages now u) (rowK cs pages now t)) ts = b at hF hpk
  have em : row = rowK cs pages now b := by
    obtain ⟨u, hu, rfl⟩ := List.mem_map.mp hrow
    exact lexI_eq (hmax _ (List.mem_map.mpr ⟨b, List.mem_of_getElem? hF.at_, rfl⟩)) (hF.le u hu)
  subst em
  have hall4 := hall.mono (TupS.of s04)
  have hvs4 := s04 _ _ hvs
  walk_at "go"
  refine x_lcZK (SqL.of hvs4) (SqL.of hrx4) (by rw [hxl, hall.1]) (fun i acc H' => acc = (((ts.take i).filter fun t => decide (rowK cs pages now t = rowK cs pages now b)).map fun t => t.b).map V.int) (fun i acc H H' _ h => h) (small64 (by rw [hall.1]; omega)) rfl ?_ ?_
  · intro i x y tt acc H' hx hy hs' htt hacc NY NN hY hN
    obtain ⟨u, hti, hxt⟩ := hall4.get hx
    obtain ⟨ty, row, hrw, rfl, hty⟩ := hLL4.get hy
    rw [List.getElem?_map, hti] at hrw
    cases hrw
    obtain ⟨au, rfl, hau⟩ := hxt.mono (TupS.of hs')
    have et : ts.take (i + 1) = ts.take i ++ [u] := by rw [List.take_add_one, hti]; rfl
    dsimp only [wipe]
    refine x_gtup2 (SqT.of htt) ?_
    dsimp only [List.set]
    refine ⟨rfl, ?_⟩
    walk_at "go"
    refine x_eqL (SqL.of (hs' _ _ hty)) (SqL.of (hs' _ _ ht)) ?_
    walk_at "go"
    by_cases hc : rowK cs pages now u = rowK cs pages now b
    · rw [if_pos (decide_eq_true hc)]
      walk_at "go"
      refine hY _ _ (fun _ _ h => h) ?_
      show _ = List.map V.int (List.map (fun t => t.b) (List.filter (fun t => decide (rowK cs pages now t = rowK cs pages now b)) (List.take (i + 1) ts)))
      rw [hacc, et, List.filter_append]
      simp [hc]
    · rw [if_neg (by rw [decide_eq_false hc]; decide)]
      refine hN _ (fun _ _ h => h) ?_
      show _ = List.map V.int (List.map (fun t => t.b) (List.filter (fun t => decide (rowK cs pages now t = rowK cs pages now b)) (List.take (i + 1) ts)))
      rw [hacc, et, List.filter_append]
      simp [hc]
  intro pd acc H5 hp5 hs5 hn5 hacc
  rw [hall.1, List.take_length] at hacc
  have hfi := filter_first (p := fun t => decide (rowK cs pages now t = rowK cs pages now b)) ts i0 b hF.at_ (decide_eq_true rfl) (fun j t hj ht => decide_eq_false (hF.lt j t hj ht))
  have hat : atI acc 0 = some (.int b.b) := by
    rw [hacc]
    refine atI_nat (j := 0) ?_
    rw [List.getElem?_map, List.getElem?_map, hfi]
    rfl
  have s35 := hs4.trans hs5
  have hR5 := hRT0.mono s35
  have hvs5 := s35 _ _ hvs3
  have hI5 := s35 _ _ hI3
  have hall5 := hall4.mono (TupS.of hs5)
  have hML : MO P w K mg base (L2.CX P w) 18 T.C_Turned "choose" (spChoose P w K mg base) := ⟨⟨_, _, _, T.cl_Turned, T.m_Turned_choose, ok_Rule_choose T, T.bd_Rule_choose⟩⟩
  walk_at "go"
  refine x_mtK hI5 hML rfl ?_
  walk_at "go"
  rename_i ph H6 hph hs6 hn6
  refine ⟨rT, ph, pages, now, ts, _, rT :: rf, rfl, hR5.mono hs6, ⟨vs, hn6, hall5.mono (TupS.of hs6)⟩, hne, hok, hlen, hpn, fun H7 hs7 => ?_⟩
  have hpd7 : SqL K H7 pd acc := SqL.of (hs7 _ _ (hs6 _ _ hn5))
  walk_at "go"
  have hpk2 : pick ((fun pages now t u => ordG (cs.map gM) pages now u t) pages now) ts = b := hpk
  rw [hpk2, decide_eq_true rfl]
  exact q H7 ((s35.trans hs6).trans hs7 |> s03.trans)
/-! ### the law -/
def spLaw (K : PySem.W.Frag) (cs : List (Addr × Addr)) : Sp := fun vs H Q _ => ∃ (a : Addr) (ns : List Int), vs = [.ref a] ∧ SqL K H a (ns.map V.int) ∧ ns.length ≤ 63 ∧ (∀ p ∈ cs, H p.2 = some (.tbl #[])) ∧ ∀ H', Q (.bl true) H'
theorem RobL.snoc {kk : Nat} {H : Hp} {rs : List Addr} {gs : List (Int → Int → Tal → Tal → Bool)} {rf rf' rf2 : List Addr} {r : Addr} {g : Int → Int → Tal → Tal → Bool} (h : RobL P w K mg base kk H rs gs rf) (h1 : ∀ b ∈ rf, b ∈ rf') (hr : RuleOb P w K mg base kk g H rf2 r) (h2 : ∀ b ∈ rf2, b ∈ rf') : RobL P w K mg base kk H (rs ++ [r]) (gs ++ [g]) rf' := by
  refine ⟨by simp [h.1], fun i x y e1 e2 => ?_⟩
  by_cases hi : i < rs.length
  · rw [List.getElem?_append_left hi] at e1
    rw [List.getElem?_append_left (h.1 ▸ hi)] at e2
    obtain ⟨rf1, k, o⟩ := h.2 i x y e1 e2
    exact ⟨rf1, fun a ha => h1 a (k a ha), o⟩
  · have e : i = rs.length := by
      have := (List.getElem?_eq_some_iff.mp e1).1
      simp at this
      omega
    subst e
    rw [List.getElem?_append_right (Nat.le_refl _)] at e1
    rw [h.1, List.getElem?_append_right (Nat.le_refl _)] at e2
    simp at e1 e2
    subst e1 e2
    exact ⟨rf2, h2, hr⟩
theorem sql_dich {H : Hp} {a : Addr} {xs : List V} (h : SqL K H a xs) : (∃ o, H a = some o ∧ (∀ ps, o ≠ .tbl ps) ∧ ∀ H', H' a = some o → SqL K H' a xs) ∨ ∀ H', SqL K H' a xs := by
  rcases h with (h | h) | h
  · exact .inl ⟨_, h, (fun ps z => by cases z), fun H' e => .inl (.inl e)⟩
  · obtain ⟨ob, h⟩ := h
    exact .inl ⟨_, h, (fun ps z => by cases z), fun H' e => .inl (.inr ⟨ob, e⟩)⟩
  · exact .inr fun H' => .inr h
theorem ok_law (T : Txt K mg) (hcs : ∀ p ∈ ([(T.lc__law_base, T.lt__law_base)] : List (Addr × Addr)), TabB base mg p.1 p.2) : FO P w K mg base 20 T.a_law T.fd_law ["_law_script"] (spLaw K [(T.lc__law_base, T.lt__law_base)]) := by
  have sc := sc_law
  have hTB : TabB base mg T.lc__law_base T.lt__law_base := hcs _ List.mem_cons_self
  refine T.F_law.okX sc (fun vs H Q E h => ?_) (fun cdv A outer s H vs Q E hr h => ?_)
  · obtain ⟨a, ns, rfl, _⟩ := h
    rfl
  obtain ⟨a, ns, rfl, hS, hl, hTT, q⟩ := h
  have hT0 : H T.lt__law_base = some (.tbl #[]) := hTT _ List.mem_cons_self
  have hTab : Tabs (tabB T) H := fun p hp => by
    rw [List.mem_singleton.mp hp]
    exact TabS.nil hT0
  refine ⟨_, (pss_cons (ps_set (i := 1) sc.nd rfl (by first | exact Or.inl rfl | exact Or.inr rfl) (pe_op op_uAdd pe_int (pe_op op_mod (pe_callS (ok_cell_at T) (hr.mono (by decide)) (by rfl) T.g__law_cell_at T.k__law_cell_at T.bd__law_cell_at (passAt (takes_of rfl rfl rfl rfl)) (pa_cons (pv 0) (pa_cons pe_int pa_nil))) pe_int)))
      (pss_cons (ps_set (i := 2) sc.nd rfl (by first | exact Or.inl rfl | exact Or.inr rfl) (pe_callS (ok_now T) (hr.mono (by decide)) (by rfl) T.g__law_now T.k__law_now T.bd__law_now (passAt (takes_of rfl rfl rfl rfl)) (pa_cons (pe_callS (ok_cell_at T) (hr.mono (by decide)) (by rfl) T.g__law_cell_at T.k__law_cell_at T.bd__law_cell_at (passAt (takes_of rfl rfl rfl rfl)) (pa_cons (pv 0) (pa_cons pe_int pa_nil))) pa_nil)))
      (pss_cons (ps_set (i := 3) sc.nd rfl (by first | exact Or.inl rfl | exact Or.inr rfl) (pe_callS (ok_tallies T) (hr.mono (by decide)) (by rfl) T.g__law_tallies T.k__law_tallies T.bd__law_tallies (passAt (takes_of rfl rfl rfl rfl)) (pa_cons (pv 0) (pa_cons pe_int (pa_cons (pv 1) (pa_cons (pv 2) pa_nil))))))
      (pss_cons (ps_set (i := 4) sc.nd rfl (by first | exact Or.inl rfl | exact Or.inr rfl) (pe_callS (ok_cells T) (hr.mono (by decide)) (by rfl) T.g__law_cells T.k__law_cells T.bd__law_cells (passAt (takes_of rfl rfl rfl rfl)) (pa_cons (pv 0) pa_nil)))
      (pss_cons (ps_setLc (i := 5) (own := [("_law_cell", 6)]) (by rfl) sc.nd rfl rfl (sw_true rfl rfl rfl (by decide +kernel)) (pi_list (pv 4)) (blkOk_by (own := [("_law_cell", 6)]) (N := N_law) (sc := defScope s_law) (by decide +kernel)) (fun _ _ _ _ _ => (pg_name (i := 6) sc.nd rfl (by first | exact Or.inl rfl | exact Or.inr rfl))) (fun _ _ _ _ _ => pts_nil) (fun _ _ _ _ _ => (pe_callS (ok_made (P := P) (w := w) (K := K) T hTB) (hr.mono (by decide)) (by rfl) T.g__law_made T.k__law_made T.bd__law_made passL2 (pa_cons (pv 6) pa_nil))))
      (pss_cons (ps_set (i := 7) sc.nd rfl (by first | exact Or.inl rfl | exact Or.inr rfl) (pe_mkS T.mk_Order (ok_Order_init T) (hr.mono (by decide)) (by rfl) T.g_Order T.bd_Order_init .nil (passAt (takes_of rfl rfl rfl rfl)) (pa_cons (pv 5) pa_nil)))
      (pss_cons (ps_set (i := 8) sc.nd rfl (by first | exact Or.inl rfl | exact Or.inr rfl) (pe_lst pa_nil))
      (pss_cons (ps_for (passes_of rfl) rfl (pi_list (pv 3)) (pg_name (i := 9) sc.nd rfl (by first | exact Or.inl rfl | exact Or.inr rfl)) (pss_one (ps_expr (pe_bm PySem.F.plainAttrs_list PySem.F.slot_list_append PySem.F.type_list_append mt_append (pv 8) (pa_cons (pe_lc (own := [("_law_cell", 6)]) (by rfl) sc.nd (pi_list (pv 4)) (blkOk_by (own := [("_law_cell", 6)]) (N := N_law) (sc := defScope s_law) (by decide +kernel)) (fun _ _ _ _ _ => (pg_name (i := 6) sc.nd rfl (by first | exact Or.inl rfl | exact Or.inr rfl))) (fun _ _ _ _ _ => pts_nil) (fun _ _ _ _ _ => (pe_callS (ok_rank T) (hr.mono (by decide)) (by rfl) T.g__law_rank T.k__law_rank T.bd__law_rank passL2 (pa_cons (pv 6) (pa_cons (pv 9) (pa_cons (pv 1) (pa_cons (pv 2) pa_nil))))))) pa_nil)))))
      (pss_cons (ps_if (pt_cmpR (op_uNe hr.units) (pe_callB (cr_ulen) (by rfl) T.b_len bt_len (pa_cons (pv 5) pa_nil)) (pe_callB (cr_ulen) (by rfl) T.b_len bt_len (pa_cons (pv 4) pa_nil)) (nomark _)) (pss_one (ps_ret pe_bl)) pss_nil)
      (pss_cons (ps_for (passes_of rfl) rfl (pi_range1 (by rfl) T.b_range (pa_cons pe_int pa_nil)) (pg_name (i := 10) sc.nd rfl (by first | exact Or.inl rfl | exact Or.inr rfl)) (pss_cons (ps_for (passes_of rfl) rfl (pi_list (pe_lst (pa_cons (pe_tup (pa_cons pe_int (pa_cons (pe_un un_neg pe_int) pa_nil))) (pa_cons (pe_tup (pa_cons (pe_un un_neg pe_int) (pa_cons pe_int pa_nil))) pa_nil)))) (pg_tup (by rfl) (pgs_cons (pg_name (i := 11) sc.nd rfl (by first | exact Or.inl rfl | exact Or.inr rfl)) (pgs_cons (pg_name (i := 12) sc.nd rfl (by first | exact Or.inl rfl | exact Or.inr rfl)) pgs_nil))) (pss_cons (ps_set (i := 13) sc.nd rfl (by first | exact Or.inl rfl | exact Or.inr rfl) (pe_methD (k := 17) (pv 7) (hr.mono (by decide)) (passAt (takes_of rfl rfl rfl rfl)) (pa_cons (pe_ix ix_seq (pv 3) (pv 11) (fun _ _ => rfl)) (pa_cons (pe_ix ix_seq (pv 3) (pv 12) (fun _ _ => rfl)) (pa_cons (pv 1) (pa_cons (pv 2) pa_nil))))))
      (pss_one (ps_if (PW.pt (pw_or (pt_not (pt_truth (pe_callB (cr_uisinstance) (by rfl) T.b_isinstance bt_isinstance (pa_cons (pv 13) (pa_cons (pe_bltn (v := .ty "bool") (by rfl) T.b_bool bt_bool rfl) pa_nil))) (by intro _; rfl))) (pw_or1 (pt_cmpR (op_uNe hr.units) (pv 13) (pe_cmpR (op_ltL hr.units) (pe_ix ix_seq (pv 8) (pv 11) (fun _ _ => rfl)) (pe_ix ix_seq (pv 8) (pv 12) (fun _ _ => rfl)) (nomark _)) (nomark _))))) (pss_one (ps_ret pe_bl)) pss_nil))))
      (pss_cons (ps_set (i := 14) sc.nd rfl (by first | exact Or.inl rfl | exact Or.inr rfl) (pe_callTy ct_list (by rfl) T.b_list bt_list (pa_cons (pv 3) pa_nil)))
      (pss_cons (ps_set (i := 13) sc.nd rfl (by first | exact Or.inl rfl | exact Or.inr rfl) (pe_methD (k := 18) (pv 7) (hr.mono (by decide)) (passAt (takes_of rfl rfl rfl rfl)) (pa_cons (pv 14) (pa_cons (pv 1) (pa_cons (pv 2) pa_nil)))))
      (pss_cons (ps_if (PW.pt (pw_or (pt_not (pt_truth (pe_callS (ok_whole T) (hr.mono (by decide)) (by rfl) T.g__law_whole T.k__law_whole T.bd__law_whole (passAt (takes_of rfl rfl rfl rfl)) (pa_cons (pv 13) pa_nil)) (by intro _; rfl))) (pw_or (pt_cmpR (op_uNe hr.units) (pv 13) (pe_callS (ok_first T) (hr.mono (by decide)) (by rfl) T.g__law_first T.k__law_first T.bd__law_first (passAt (takes_of rfl rfl rfl rfl)) (pa_cons (pv 3) (pa_cons (pv 8) pa_nil))) (nomark _)) (pw_or1 (pt_cmpR (op_uNe hr.units) (pv 14) (pv 3) (nomark _)))))) (pss_one (ps_ret pe_bl)) pss_nil)
      (pss_one (ps_expr (pe_bm0 PySem.F.plainAttrs_list PySem.F.slot_list_clear PySem.F.type_list_clear mt_clear (pv 5)))))))))
      (pss_cons (ps_if (pt_not (pt_truth (pe_callS (ok_turned_good T) (hr.mono (by decide)) (by rfl) T.g__law_turned_good T.k__law_turned_good T.bd__law_turned_good (passAt (takes_of rfl rfl rfl rfl)) (pa_cons (pv 7) (pa_cons (pv 3) (pa_cons (pv 8) (pa_cons (pv 1) (pa_cons (pv 2) pa_nil)))))) (by intro _; rfl))) (pss_one (ps_ret pe_bl)) pss_nil)
      (pss_one (ps_ret (pe_andT (pe_callS (ok_refused T) (hr.mono (by decide)) (by rfl) T.g__law_refused T.k__law_refused T.bd__law_refused (passAt (takes_of rfl rfl rfl rfl)) (pa_cons pe_int pa_nil)) (pe_one (pe_callS (ok_refused T) (hr.mono (by decide)) (by rfl) T.g__law_refused T.k__law_refused T.bd__law_refused (passAt (takes_of rfl rfl rfl rfl)) (pa_cons (pe_op op_uAdd pe_int (pe_op op_mod (pe_op op_fdivW (pe_callS (ok_cell_at T) (hr.mono (by decide)) (by rfl) T.g__law_cell_at T.k__law_cell_at T.bd__law_cell_at (passAt (takes_of rfl rfl rfl rfl)) (pa_cons (pv 0) (pa_cons pe_int pa_nil))) pe_int) pe_int)) pa_nil))))))))))))))))), ?_⟩
  walk_at "begin"
  walk_at "go"
  have hp1 : 1 ≤ 1 + cl ns 0 % 16 := by omega
  have hp2 : 1 + cl ns 0 % 16 ≤ 16 := by omega
  rename_i now hn1 hn2 p ts H1 hs1 hpn hT hne hG hL
  generalize 1 + cl ns 0 % 16 = pages at hp1 hp2 hG ⊢
  have hok : ∀ t ∈ ts, TOk pages now t := fun t ht => hG.1 t ht
  have hpn2 : PN pages now := ⟨hp1, hp2, hn1, hn2⟩
  refine ⟨a, ns, rfl, hs1.seq hS, fun pc cs H2 hs2 hpc hnc hc1 hc8 => ?_⟩
  walk_at "go"
  have hTab2 : Tabs (tabB T) H2 := Tabs.ext hTab fun b o e => hs2 _ _ (hs1 b o e)
  have hlt2 : H2 T.lt__law_base = some (.tbl #[]) := hs2 _ _ (hs1 _ _ hT0)
  refine x_lcLO (K := K) [T.lt__law_base] (fun b hb z => by rw [List.mem_singleton.mp hb, hlt2] at z; cases z) hnc (fun m => by rw [List.mem_singleton.mp m, hlt2] at hnc; cases hnc)
    (fun Dr i acc H' => Tabs (tabB T) H' ∧ ∃ rs rf, acc = rs.map V.ref ∧ (∀ b ∈ rf, b ≠ Dr ∧ b ≠ T.lt__law_base) ∧ (∀ b ∈ rf, ∃ o, H' b = some o ∧ ∀ xs, o ≠ .tup xs) ∧ RobL P w K mg base 5 H' rs ((cs.take i).map gM) rf) ?_ (small64 (by rw [List.length_map]; omega)) ?_ ?_ ?_
  · intro Dr i acc acc0 acc1 H' hD ⟨k1, rs, rf, k2, k3, k4, k5⟩
    have ku : ∀ b ∈ rf, ∀ o, H' b = some o → upd H' Dr (.lst acc1) b = some o := fun b hb o e => by
      rw [upd_ne (k3 b hb).1]
      exact e
    refine ⟨tabs_lst k1 hD, rs, rf, k2, k3, fun b hb => ?_, k5.keep ku⟩
    obtain ⟨o, e, n⟩ := k4 b hb
    exact ⟨o, ku b hb o e, n⟩
  · intro Dr hD
    exact ⟨Tabs.ext hTab2 fun b o e => same_upd hD b o e, [], [], rfl, (fun b hb => by cases hb), (fun b hb => by cases hb), rfl, fun i r g h1 _ => by simp at h1⟩
  · intro Dr i x acc H' hx hD hD' hO ⟨k1, rs, rf, k2, k3, k4, k5⟩ NY NN hY hN
    rw [List.getElem?_map] at hx
    cases hc : cs[i]? with
    | none => rw [hc] at hx; cases hx
    | some c =>
      rw [hc] at hx
      cases hx
      dsimp only [wipe]
      walk_at "go"
      refine ⟨rfl, ?_⟩
      walk_at "go"
      refine ⟨c, rfl, k1, fun r rf2 H3 hO3 hT3 hL3 hR3 => ?_⟩
      have hDl : Dr ≠ T.lt__law_base := fun z => by
        rw [z] at hD
        rw [hD] at hlt2
        cases hlt2
      have ku : ∀ b ∈ rf, ∀ o, H' b = some o → H3 b = some o := fun b hb o e => hO3 b o (fun m => (k3 b hb).2 (List.mem_singleton.mp m)) e
      have et : cs.take (i + 1) = cs.take i ++ [c] := by rw [List.take_add_one, hc]; rfl
      refine hY _ _ hO3 ⟨hT3, rs ++ [r], rf ++ rf2, ?_, ?_, ?_, ?_⟩
      · rw [k2, List.map_append]; rfl
      · intro b hb
        rcases List.mem_append.mp hb with hb | hb
        · exact k3 b hb
        · refine ⟨fun z => ?_, fun z => ?_⟩
          · subst z
            exact (hL3 b hb).1 acc (hO3 b _ (fun m => hDl (List.mem_singleton.mp m)) hD')
          · subst z
            obtain ⟨ps, e, _⟩ := hT3 _ List.mem_cons_self
            exact (hL3 _ hb).2 ps e
      · intro b hb
        rcases List.mem_append.mp hb with hb | hb
        · obtain ⟨o, e, n⟩ := k4 b hb
          exact ⟨o, ku b hb o e, n⟩
        · exact hR3.2.1 b hb
      · rw [et, List.map_append]
        exact RobL.snoc (k5.keep ku) (fun b hb => List.mem_append_left _ hb) hR3 (fun b hb => List.mem_append_right _ hb)
  intro ph acc H3 hp3 hO3 hn3 ⟨hT3, rs, rf, k2, k3, k4, k5⟩
  subst k2
  rw [List.length_map, List.take_length] at k5
  walk_at "go"
  rename_i ro dx H4 hro hdx hne4 hs4 hn4 hdd
  refine ⟨ro, ph, dx, rs.map V.ref, rfl, hn4, SqL.of (hs4 _ _ hn3), fun _ bl H5 hbl hO5 hI5 hbl5 => ⟨rfl, ?_⟩, fun z => absurd ?_ z⟩
  rotate_left
  · rw [List.length_map, k5.1, List.length_map]
    exact ⟨hc1, hc8⟩
  have s35 : Same H3 H5 := Off.same1 hs4 hO5 hro
  have k55 := k5.keep fun a _ o e => s35 a o e
  have hRO := rob_Order T hI5 hbl5 k55 (fun b hb => let ⟨o, e, n⟩ := k4 b hb; ⟨o, s35 _ _ e, n⟩)
  have lnS : ∀ b ∈ [T.lt__law_base], ∀ {H' : Hp} {o : HO}, H' T.lt__law_base = some (.tbl #[]) → H' b = some o → ∃ ps, o = .tbl ps := fun b hb H' o e1 e2 => by
    rw [List.mem_singleton.mp hb, e1] at e2
    exact ⟨_, (Option.some.inj e2).symm⟩
  have up5 : ∀ {b : Addr} {o : HO}, H2 b = some o → (∀ ps, o ≠ .tbl ps) → H5 b = some o := fun {b o} e n => s35 _ _ (hO3 b o (fun m => let ⟨ps, z⟩ := lnS b m hlt2 e; n ps z) e)
  obtain ⟨vs, hvs, hall⟩ := hT
  have tt5 : TupS H2 H5 := fun c xs e => up5 e (fun ps z => by cases z)
  have hvs5 : H5 p = some (.lst vs) := up5 (hs2 _ _ hvs) (fun ps z => by cases z)
  have hall5 : TAll H5 vs ts := (hall.mono (TupS.of hs2)).mono tt5
  have hnc5 : H5 pc = some (.lst (cs.map V.int)) := up5 hnc (fun ps z => by cases z)
  have hph5 : H5 ph = some (.lst (rs.map V.ref)) := s35 _ _ hn3
  have hSX : ∀ H', (a ≠ ph → ∀ o, H5 a = some o → H' a = some o) → SqL K H' a (ns.map V.int) := fun H' k => by
    rcases sql_dich (hs2.seq (hs1.seq hS)) with ⟨o, e, n, z⟩ | z
    · exact z H' (k (fun y => by rw [y, hp3] at e; cases e) o (up5 e n))
    · exact z H'
  have nvp : p ≠ ph := fun z => by
    rw [← z, hs2 _ _ hvs] at hp3
    cases hp3
  have hrl : rs.length = cs.length := by rw [k5.1, List.length_map]
  have nph : ∀ b ∈ ro :: bl :: rf, b ≠ ph := fun b hb z => by
    rcases List.mem_cons.mp hb with h | hb
    · rw [← h, z, hs4 _ _ hn3] at hn4
      cases hn4
    rcases List.mem_cons.mp hb with h | hb
    · rw [← h, z, hs4 _ _ hn3] at hbl
      cases hbl
    · exact (k3 b hb).1 z
  clear up5 lnS hO5 hn4 hs4 hO3 hdd hdx hro hbl hbl5 k55 k4 k5 k3 hT3 hTab2 hlt2 hnc hpc hs2 hs1 hTab hTT hT0 hall hvs tt5 s35
  walk_at "go"
  rename_i rr H6 hrr hs6 hn6
  refine x_seq ?_
  walk_at "go"
  have nrph : ph ≠ rr := fun z => by
    rw [z, hrr] at hph5
    cases hph5
  refine x_frL (SqL.of (hs6 _ _ hvs5)) (fun i σ H' => ∃ (v9 : Option V) (xs : List V), σ = [some (.ref a), some (.int pages), some (.int now), some (.ref p), some (.ref pc), some (.ref ph), none, some (.ref ro), some (.ref rr), v9, none, none, none, none, none] ∧ Same H5 H' ∧ H' rr = some (.lst xs) ∧ LLr [ph, rr] H' xs ((ts.take i).map (rowK cs pages now)) ∧ i ≤ 16)
    ⟨_, [], rfl, hs6, hn6, LLr.nil, Nat.zero_le _⟩ (fun i σ H' _ ⟨_, _, _, s, _⟩ => s.seq (SqL.of hvs5)) ?_ ?_
  · intro i x σ H' hx ⟨v9, xs, hσ, hs', hxs, hLL, hi⟩
    subst hσ
    obtain ⟨t, hti, hxt⟩ := hall5.get hx
    have hit := (List.getElem?_eq_some_iff.mp hti).1
    have hto := hok t (List.mem_of_getElem? hti)
    have hnc' := hs' _ _ hnc5
    have hxt' := hxt.mono (TupS.of hs')
    have hxl : xs.length < sizeLine := small64 (by rw [hLL.1, List.length_map, List.length_take]; omega)
    have et : ts.take (i + 1) = ts.take i ++ [t] := by rw [List.take_add_one, hti]; rfl
    walk_at "go"
    refine x_lcLK (SqL.of hnc') (fun j acc H'' => acc = ((cs.take j).map fun c => rkK c pages now t).map V.int) (fun j acc H H' _ h => h) (small64 (by rw [List.length_map]; omega)) rfl ?_ ?_
    · intro j y acc H'' hy hs'' hacc NY NN hY hN
      rw [List.getElem?_map] at hy
      cases hc : cs[j]? with
      | none => rw [hc] at hy; cases hy
      | some c =>
        rw [hc] at hy
        cases hy
        dsimp only [wipe]
        walk_at "go"
        refine ⟨rfl, ?_⟩
        walk_at "go"
        refine ⟨x, c, pages, now, t, rfl, hxt'.mono (TupS.of hs''), hto, hpn2, fun H3 hs3 => ?_⟩
        refine hY _ _ hs3 ?_
        show _ = List.map V.int (List.map (fun c => rkK c pages now t) (cs.take (j + 1)))
        rw [hacc, List.take_add_one, hc, List.map_append, List.map_append]
        rfl
    · intro pl acc H'' hpl hs'' hn'' hacc
      rw [List.length_map, List.take_length] at hacc
      have hxs'' := hs'' _ _ hxs
      walk_at "go"
      have nr : pl ∉ [ph, rr] := fun m => by
        rcases List.mem_cons.mp m with z | m
        · rw [z, hs' _ _ hph5] at hpl
          cases hpl
        · rw [List.mem_singleton.mp m, hxs] at hpl
          cases hpl
      refine ⟨_, _, rfl, same_updS (hs'.trans hs'') hrr, upd_same, ?_, ?_⟩
      · rw [et, List.map_append]
        exact ((hLL.off (Off.of hs'')).snoc nr (by rw [hn'', hacc]; rfl)).off (Off.upd (List.mem_cons_of_mem _ List.mem_cons_self))
      · have : i < 16 := Nat.lt_of_lt_of_le hit hL
        omega
  · intro σ H' ⟨v9, xs, hσ, hs', hxs, hLL, hi⟩
    subst hσ
    rw [hall5.1, List.take_length] at hLL
    have hph' := hs' _ _ hph5
    have hnc' := hs' _ _ hnc5
    walk_at "go"
    walk_at "if"
    refine x_iteD (fun h => ?_) (fun h => absurd (by rw [hrl]) h)
    walk_at "go"
    refine x_seq ?_
    walk_at "go"
    have hvs' := hs' _ _ hvs5
    have hall' := hall5.mono (TupS.of hs')
    have hR' := hRO.mono hs'
    have hLL' : LLr [ph] H' xs (ts.map (rowK cs pages now)) := hLL.sub fun b hb => by
      rw [List.mem_singleton.mp hb]
      exact List.mem_cons_self
    have hI' := hs' _ _ hI5
    have hSY : ∀ H'', (a ≠ ph → ∀ o, H' a = some o → H'' a = some o) → SqL K H'' a (ns.map V.int) := fun H'' k => hSX H'' fun ne o e => k ne o (hs' _ _ e)
    clear hSX
    have nro : ro ≠ ph := nph ro List.mem_cons_self
    clear hLL hRO hvs5 hall5 hnc5 hph5 hs' hI5
    have hpos : 0 < ts.length := List.length_pos_iff.mpr hne
    have hML : MO P w K mg base (L2.CX P w) 18 T.C_Order "choose" (spChoose P w K mg base) := ⟨⟨_, _, _, T.cl_Order, T.m_Order_choose, ok_Rule_choose T, T.bd_Rule_choose⟩⟩
    have hlex : ∀ t u, TOk pages now t → TOk pages now u → ordG (cs.map gM) pages now t u = lexI (rowK cs pages now t) (rowK cs pages now u) := fun t u k1 k2 => ordG_lex hp1 ⟨k1.2.2.1, k1.2.2.2.1⟩ ⟨k2.2.2.1, k2.2.2.2.1⟩ cs
    have hR17 : RuleOb P w K mg base 17 (ordG (cs.map gM)) H' (ro :: bl :: rf) ro := RuleOb.up hR' (by decide)
    have hxl : xs.length = ts.length := by rw [hLL'.1, List.length_map]
    refine x_frR1 (by omega) (fun i σ H'' => ∃ (v10 v11 v12 v13 v14 : Option V) (ys : List V), σ = [some (.ref a), some (.int pages), some (.int now), some (.ref p), some (.ref pc), some (.ref ph), none, some (.ref ro), some (.ref rr), v9, v10, v11, v12, v13, v14] ∧ Off [ph] H' H'' ∧ H'' ph = some (.lst ys)) ⟨_, _, _, _, _, _, rfl, Off.refl, hph'⟩ ?_ ?_
    · intro i σ H8 hi ⟨v10, v11, v12, v13, v14, ys, hσ, hO8, hph8⟩
      subst hσ
      have hT8 : TupS H' H8 := fun a xs e => hO8 a _ (fun m => by rw [List.mem_singleton.mp m, hph'] at e; cases e) e
      have hvs8 := hO8.at hvs' (nin_of nvp)
      have hall8 := hall'.mono hT8
      have hxs8 := hO8.at hxs (nin_of (Ne.symm nrph))
      have hLL8 := hLL'.off hO8
      have hR8 := hR17.keep fun a ha o e => hO8.at e (nin_of (nph a ha))
      walk_at "go"
      refine x_seq ?_
      walk_at "go"
      rename_i q1 H9 hq1 hs9 hn9 q2 H10 hq2 hs10 hn10 ql HL hql hsL hnL
      have s8L := (hs9.trans hs10).trans hsL
      have QQ : ∀ (i : Nat) x, [V.ref q1, V.ref q2][i]? = some x → ∃ b one other, x = .ref b ∧ HL b = some (.tup [.int one, .int other]) ∧ (one = 0 ∨ one = -1) ∧ (other = 0 ∨ other = -1) := by
        intro i x h
        match i, h with
        | 0, h => cases h; exact ⟨q1, 0, -1, rfl, hsL _ _ (hs10 _ _ hn9), .inl rfl, .inr rfl⟩
        | 1, h => cases h; exact ⟨q2, -1, 0, rfl, hsL _ _ hn10, .inr rfl, .inl rfl⟩
      refine x_frL (SqL.of hnL) (fun j0 σ HX => ∃ (v11 v12 v13 : Option V), σ = [some (.ref a), some (.int pages), some (.int now), some (.ref p), some (.ref pc), some (.ref ph), none, some (.ref ro), some (.ref rr), v9, some (.int (0 + (i : Int))), v11, v12, v13, v14] ∧ Same HL HX)
        ⟨_, _, _, rfl, fun _ _ h => h⟩ (fun i σ HX _ ⟨_, _, _, _, hs⟩ => hs.seq (SqL.of hnL)) ?_ ?_
      · intro j x σ HX hx ⟨v11, v12, v13, hσ, hsX⟩
        subst hσ
        obtain ⟨b, one, other, rfl, hb, ho1, ho2⟩ := QQ j x hx
        obtain ⟨j1, hj1, f1⟩ := atI_any ts.length hpos one ho1
        obtain ⟨j2, hj2, f2⟩ := atI_any ts.length hpos other ho2
        have g1 : atI vs one = some (vs[j1]'(hall8.1 ▸ hj1)) := by rw [f1 vs hall8.1, List.getElem?_eq_getElem]
        have g2 : atI vs other = some (vs[j2]'(hall8.1 ▸ hj2)) := by rw [f2 vs hall8.1, List.getElem?_eq_getElem]
        have s8X := s8L.trans hsX
        obtain ⟨t1, ex1, ht1⟩ := atI_mapR (hLL8.off (Off.of s8X)) hj1
        obtain ⟨t2, ex2, ht2⟩ := atI_mapR (hLL8.off (Off.of s8X)) hj2
        have g3 : atI xs one = some (.ref t1) := by rw [f1 xs hxl, ex1]
        have g4 : atI xs other = some (.ref t2) := by rw [f2 xs hxl, ex2]
        have u1 := (hall8.2 j1 _ _ (List.getElem?_eq_getElem (hall8.1 ▸ hj1)) (List.getElem?_eq_getElem hj1)).mono (TupS.of s8X)
        have u2 := (hall8.2 j2 _ _ (List.getElem?_eq_getElem (hall8.1 ▸ hj2)) (List.getElem?_eq_getElem hj2)).mono (TupS.of s8X)
        have k1 := hok ts[j1] (List.getElem_mem hj1)
        have k2 := hok ts[j2] (List.getElem_mem hj2)
        have hpX : SqL K HX p vs := s8X.seq (SqL.of hvs8)
        have hrX : SqL K HX rr xs := s8X.seq (SqL.of hxs8)
        obtain ⟨_, _, C, dxx, fs, I, hC, hl1, _, st, hI, hM⟩ := hR8.mono s8X
        refine x_gtup2 (SqT.of (hsX _ _ hb)) ?_
        dsimp only [List.set]
        walk_at "go"
        refine x_mtK hC hM hl1 ?_
        walk_at "go"
        refine ⟨_, _, ts[j1], ts[j2], pages, now, rfl, hI, u1, u2, k1, k2, hpn2, fun HY hsY => ?_⟩
        walk_at "go"
        refine x_ltL (SqL.of (hsY _ _ ht1)) (SqL.of (hsY _ _ ht2)) ?_
        rw [hlex _ _ k1 k2]
        walk_at "go"
        rw [decide_eq_true rfl]
        walk_at "go"
        exact ⟨_, _, _, rfl, hsX.trans hsY⟩
      · intro σ HX ⟨v11, v12, v13, hσ, hsX⟩
        subst hσ
        dsimp only
        have s8X := s8L.trans hsX
        have hpX := s8X _ _ hvs8
        walk_at "go"
        rename_i pw HY hpw hsY hnY
        have hTh : TL HY pw ts := ⟨vs, hnY, (hall8.mono (TupS.of s8X)).mono (TupS.of hsY)⟩
        have hRY := (hR8.mono s8X).mono hsY
        have hIY := hsY _ _ (s8X _ _ (hO8.at hI' (nin_of nro)))
        have s8Y := s8X.trans hsY
        refine x_mtK hIY hML rfl ?_
        walk_at "go"
        refine ⟨ro, pw, pages, now, ts, _, _, rfl, hRY, hTh, hne, hok, hL, hpn2, fun HZ hsZ => ?_⟩
        have s8Z := s8Y.trans hsZ
        have hTZ : TL HZ p ts := ⟨vs, s8Z _ _ hvs8, hall8.mono (TupS.of s8Z)⟩
        walk_at "go"
        walk_at "if"
        refine ⟨p, rr, ts, rowK cs pages now, [ph], xs, rfl, hTZ, s8Z _ _ hxs8, hLL8.off (Off.of s8Z), hne, fun HF hsF => ?_⟩
        rw [pick_congr (A := TOk pages now) (g := fun t u => lexI (rowK cs pages now t) (rowK cs pages now u)) hlex _ hok]
        walk_at "go"
        refine x_iteD (fun h => ?_) (fun h => absurd rfl h)
        walk_at "go"
        refine TL.ne ((hTh.mono hsZ).mono hsF) (hTZ.mono hsF) ?_
        have hphF := hsF _ _ (s8Z _ _ hph8)
        walk_at "go"
        exact ⟨_, _, _, _, _, [], rfl, (hO8.trans (Off.of (s8Z.trans hsF))).trans (Off.upd (List.mem_singleton.mpr rfl)), upd_same⟩
    · intro σ H8 ⟨v10, v11, v12, v13, v14, ys, hσ, hO8, hph8⟩
      subst hσ
      dsimp only
      have hT8 : TupS H' H8 := fun a xs e => hO8 a _ (fun m => by rw [List.mem_singleton.mp m, hph'] at e; cases e) e
      have hR8 := hR'.keep fun a ha o e => hO8.at e (nin_of (nph a ha))
      walk_at "go"
      walk_at "if"
      refine ⟨ro, p, rr, pages, now, ts, cs, _, [ph], xs, rfl, hR8, ⟨vs, hO8.at hvs' (nin_of nvp), hall'.mono hT8⟩, hO8.at hxs (nin_of (Ne.symm nrph)), hLL'.off hO8, hne, hok, hL, hpn2, fun H9 hs9 => ?_⟩
      walk_at "go"
      refine ⟨0, rfl, .inl rfl, fun H10 hs10 => ?_⟩
      have hS10 : SqL K H10 a (ns.map V.int) := hSY H10 fun ne o e => hs10 _ _ (hs9 _ _ (hO8.at e (nin_of ne)))
      walk_at "go"
      refine ⟨9 + cl ns 18 / 8 % 4, rfl, .inr ⟨by omega, by omega⟩, fun H11 hs11 => ?_⟩
      exact q H11
end
theorem txt_of {l : PySem.W.OpenLaw} {w : World} {K : PySem.W.Frag} {h : Heap} {mg : Str → Option Value} {fa : Addr} {A : List Addr} {A2 : List Addr} (X : K.In h) (G : h.Ns mainGlobals mg) (hfa : mg "law" = some (.ref fa)) (c : SaysK fsK fnK K A) :
    ∃ fd : FuncData, (∀ (s : Shared) (v : Value), BindsTo s fd ⟨[v], []⟩ [("_law_script", v)]) ∧ ∀ base : Heap, K.In base → base.Ns mainGlobals mg → (∀ p ∈ csOf csK A A2, TabB base mg p.1 p.2) → FnOk l.prog w K mg base (L2.CX l.prog w) 20 fa fd ["_law_script"] (spLaw K (csOf csK A A2)) := by
  have hh := c.facts
  unfold fsK at hh
  obtain ⟨hc0, hh⟩ := He.ba hh
  obtain ⟨a_is_whole, a_is_within, a__law_cell_at, a__law_whole, a__law_now, a__law_tallies, a__law_first, a__law_base, a__law_made, a__law_rank, a__law_cells, a__law_turned_good, a__law_refused, a_law, lk__law_base, aC_Rule, pg_Rule, hd_Rule, po_Rule, sa_Rule, mi_Rule, kc_Rule, oi_Rule, at_Rule_goes_ahead, fn_Rule_goes_ahead⟩ := fsK0_ok hc0
  obtain ⟨hc1, hh⟩ := He.ba hh
  obtain ⟨at_Rule_choose, fn_Rule_choose, aC_Fewest, pg_Fewest, hd_Fewest, po_Fewest, sa_Fewest, mi_Fewest, kc_Fewest, oi_Fewest, at_Fewest_goes_ahead, fn_Fewest_goes_ahead, at_Fewest_choose, aC_Eldest, pg_Eldest, hd_Eldest, po_Eldest, sa_Eldest, mi_Eldest, kc_Eldest, oi_Eldest, at_Eldest_goes_ahead, fn_Eldest_goes_ahead, at_Eldest_choose, aC_Worth⟩ := fsK1_ok hc1
  obtain ⟨hc2, hh⟩ := He.ba hh
  obtain ⟨pg_Worth, hd_Worth, po_Worth, sa_Worth, mi_Worth, kc_Worth, oi_Worth, at_Worth_goes_ahead, fn_Worth_goes_ahead, at_Worth_choose, aC_Weighed, pg_Weighed, hd_Weighed, po_Weighed, sa_Weighed, na_Weighed_weigh, at_Weighed_goes_ahead, fn_Weighed_goes_ahead, at_Weighed_choose, at_Weighed_init, fn_Weighed_init, mi_Weighed, kc_Weighed, aC_Turned, pg_Turned⟩ := fsK2_ok hc2
  obtain ⟨hc3, hh⟩ := He.ba hh
  obtain ⟨hd_Turned, po_Turned, sa_Turned, na_Turned_rule, at_Turned_goes_ahead, fn_Turned_goes_ahead, at_Turned_choose, at_Turned_init, fn_Turned_init, mi_Turned, kc_Turned, aC_Order, pg_Order, hd_Order, po_Order, sa_Order, na_Order_rules, at_Order_goes_ahead, fn_Order_goes_ahead, at_Order_choose, at_Order_init, fn_Order_init, mi_Order, kc_Order, aC_Window⟩ := fsK3_ok hc3
  obtain ⟨hc4, hh⟩ := He.ba hh
  obtain ⟨pg_Window, hd_Window, po_Window, sa_Window, na_Window_many, at_Window_goes_ahead, at_Window_choose, fn_Window_choose, at_Window_init, fn_Window_init, mi_Window, kc_Window, aC_Follow, pg_Follow, hd_Follow, po_Follow, sa_Follow, na_Follow_blocks, na_Follow_asked, at_Follow_goes_ahead, at_Follow_choose, fn_Follow_choose, at_Follow_init, fn_Follow_init, mi_Follow⟩ := fsK4_ok hc4
  obtain ⟨hc5, hh⟩ := He.ba hh
  obtain ⟨kc_Follow, aC_WornError, xq_WornError, xk_WornError, xr_WornError, xt_WornError, aC_NoRule, xq_NoRule, xk_NoRule, xr_NoRule, xt_NoRule, aC_NoRace, xq_NoRace, xk_NoRace, xr_NoRace, xt_NoRace, em_NoRule_WornError, eg_NoRule, ek_NoRule, es_NoRule, ed_NoRule, ea_NoRule, en_NoRule, et_NoRule, eo_NoRule⟩ := fsK5_ok hc5
  obtain ⟨ki_NoRule_ValueError, kd_NoRule_NoRule, kd_NoRule_NoRace, z_len, z_isinstance, z_min, z_max, z_sorted, z_int, z_list, z_bool, z_range, z_zip, z_ValueError⟩ := fsK6_ok hh
  have e := hfa.symm.trans (PySem.W.mg_of X G a_law)
  cases e
  obtain ⟨fd_is_whole, D_is_whole⟩ := c.def_ 0 (d := ⟨26, "is_whole", "is_whole", defArgs s_is_whole, defBody s_is_whole, defScope s_is_whole, []⟩) rfl
  have k_is_whole : PySem.W.keepIn K (.ref (A.getD 26 0)) = true := D_is_whole.kp
  have F_is_whole : Fun K "is_whole" "is_whole" s_is_whole (A.getD 26 0) fd_is_whole := funK_of D_is_whole
  have b_is_whole := F_is_whole.binds (ps := ["thing"]) fun _ _ _ _ _ _ us hl => match us, hl with | [_], _ => rfl
  obtain ⟨fd_is_within, D_is_within⟩ := c.def_ 1 (d := ⟨27, "is_within", "is_within", defArgs s_is_within, defBody s_is_within, defScope s_is_within, []⟩) rfl
  have k_is_within : PySem.W.keepIn K (.ref (A.getD 27 0)) = true := D_is_within.kp
  have F_is_within : Fun K "is_within" "is_within" s_is_within (A.getD 27 0) fd_is_within := funK_of D_is_within
  have b_is_within := F_is_within.binds (ps := ["thing", "low", "high"]) fun _ _ _ _ _ _ us hl => match us, hl with | [_, _, _], _ => rfl
  obtain ⟨fd_Rule_goes_ahead, D_Rule_goes_ahead⟩ := c.def_ 2 (d := ⟨28, "goes_ahead", "Rule.goes_ahead", defArgs s_Rule_goes_ahead, defBody s_Rule_goes_ahead, defScope s_Rule_goes_ahead, []⟩) rfl
  have k_Rule_goes_ahead : PySem.W.keepIn K (.ref (A.getD 28 0)) = true := D_Rule_goes_ahead.kp
  have F_Rule_goes_ahead : Fun K "goes_ahead" "Rule.goes_ahead" s_Rule_goes_ahead (A.getD 28 0) fd_Rule_goes_ahead := funK_of D_Rule_goes_ahead
  have b_Rule_goes_ahead := F_Rule_goes_ahead.binds (ps := ["self", "one", "other", "pages", "now"]) fun _ _ _ _ _ _ us hl => match us, hl with | [_, _, _, _, _], _ => rfl
  obtain ⟨fd_Rule_choose, D_Rule_choose⟩ := c.def_ 3 (d := ⟨29, "choose", "Rule.choose", defArgs s_Rule_choose, defBody s_Rule_choose, defScope s_Rule_choose, []⟩) rfl
  have k_Rule_choose : PySem.W.keepIn K (.ref (A.getD 29 0)) = true := D_Rule_choose.kp
  have F_Rule_choose : Fun K "choose" "Rule.choose" s_Rule_choose (A.getD 29 0) fd_Rule_choose := funK_of D_Rule_choose
  have b_Rule_choose := F_Rule_choose.binds (ps := ["self", "tallies", "pages", "now"]) fun _ _ _ _ _ _ us hl => match us, hl with | [_, _, _, _], _ => rfl
  obtain ⟨fd_Fewest_goes_ahead, D_Fewest_goes_ahead⟩ := c.def_ 4 (d := ⟨30, "goes_ahead", "Fewest.goes_ahead", defArgs s_Fewest_goes_ahead, defBody s_Fewest_goes_ahead, defScope s_Fewest_goes_ahead, []⟩) rfl
  have k_Fewest_goes_ahead : PySem.W.keepIn K (.ref (A.getD 30 0)) = true := D_Fewest_goes_ahead.kp
  have F_Fewest_goes_ahead : Fun K "goes_ahead" "Fewest.goes_ahead" s_Fewest_goes_ahead (A.getD 30 0) fd_Fewest_goes_ahead := funK_of D_Fewest_goes_ahead
  have b_Fewest_goes_ahead := F_Fewest_goes_ahead.binds (ps := ["self", "one", "other", "pages", "now"]) fun _ _ _ _ _ _ us hl => match us, hl with | [_, _, _, _, _], _ => rfl
  obtain ⟨fd_Eldest_goes_ahead, D_Eldest_goes_ahead⟩ := c.def_ 5 (d := ⟨31, "goes_ahead", "Eldest.goes_ahead", defArgs s_Eldest_goes_ahead, defBody s_Eldest_goes_ahead, defScope s_Eldest_goes_ahead, []⟩) rfl
  have k_Eldest_goes_ahead : PySem.W.keepIn K (.ref (A.getD 31 0)) = true := D_Eldest_goes_ahead.kp
  have F_Eldest_goes_ahead : Fun K "goes_ahead" "Eldest.goes_ahead" s_Eldest_goes_ahead (A.getD 31 0) fd_Eldest_goes_ahead := funK_of D_Eldest_goes_ahead
  have b_Eldest_goes_ahead := F_Eldest_goes_ahead.binds (ps := ["self", "one", "other", "pages", "now"]) fun _ _ _ _ _ _ us hl => match us, hl with | [_, _, _, _, _], _ => rfl
  obtain ⟨fd_Worth_goes_ahead, D_Worth_goes_ahead⟩ := c.def_ 6 (d := ⟨32, "goes_ahead", "Worth.goes_ahead", defArgs s_Worth_goes_ahead, defBody s_Worth_goes_ahead, defScope s_Worth_goes_ahead, []⟩) rfl
  have k_Worth_goes_ahead : PySem.W.keepIn K (.ref (A.getD 32 0)) = true := D_Worth_goes_ahead.kp
  have F_Worth_goes_ahead : Fun K "goes_ahead" "Worth.goes_ahead" s_Worth_goes_ahead (A.getD 32 0) fd_Worth_goes_ahead := funK_of D_Worth_goes_ahead
  have b_Worth_goes_ahead := F_Worth_goes_ahead.binds (ps := ["self", "one", "other", "pages", "now"]) fun _ _ _ _ _ _ us hl => match us, hl with | [_, _, _, _, _], _ => rfl
  obtain ⟨fd_Weighed_init, D_Weighed_init⟩ := c.def_ 7 (d := ⟨33, "__init__", "Weighed.__init__", defArgs s_Weighed_init, defBody s_Weighed_init, defScope s_Weighed_init, []⟩) rfl
  have k_Weighed_init : PySem.W.keepIn K (.ref (A.getD 33 0)) = true := D_Weighed_init.kp
  have F_Weighed_init : Fun K "__init__" "Weighed.__init__" s_Weighed_init (A.getD 33 0) fd_Weighed_init := funK_of D_Weighed_init
  have b_Weighed_init := F_Weighed_init.binds (ps := ["self", "weigh"]) fun _ _ _ _ _ _ us hl => match us, hl with | [_, _], _ => rfl
  obtain ⟨fd_Weighed_goes_ahead, D_Weighed_goes_ahead⟩ := c.def_ 8 (d := ⟨34, "goes_ahead", "Weighed.goes_ahead", defArgs s_Weighed_goes_ahead, defBody s_Weighed_goes_ahead, defScope s_Weighed_goes_ahead, []⟩) rfl
  have k_Weighed_goes_ahead : PySem.W.keepIn K (.ref (A.getD 34 0)) = true := D_Weighed_goes_ahead.kp
  have F_Weighed_goes_ahead : Fun K "goes_ahead" "Weighed.goes_ahead" s_Weighed_goes_ahead (A.getD 34 0) fd_Weighed_goes_ahead := funK_of D_Weighed_goes_ahead
  have b_Weighed_goes_ahead := F_Weighed_goes_ahead.binds (ps := ["self", "one", "other", "pages", "now"]) fun _ _ _ _ _ _ us hl => match us, hl with | [_, _, _, _, _], _ => rfl
  obtain ⟨fd_Turned_init, D_Turned_init⟩ := c.def_ 9 (d := ⟨35, "__init__", "Turned.__init__", defArgs s_Turned_init, defBody s_Turned_init, defScope s_Turned_init, []⟩) rfl
  have k_Turned_init : PySem.W.keepIn K (.ref (A.getD 35 0)) = true := D_Turned_init.kp
  have F_Turned_init : Fun K "__init__" "Turned.__init__" s_Turned_init (A.getD 35 0) fd_Turned_init := funK_of D_Turned_init
  have b_Turned_init := F_Turned_init.binds (ps := ["self", "rule"]) fun _ _ _ _ _ _ us hl => match us, hl with | [_, _], _ => rfl
  obtain ⟨fd_Turned_goes_ahead, D_Turned_goes_ahead⟩ := c.def_ 10 (d := ⟨36, "goes_ahead", "Turned.goes_ahead", defArgs s_Turned_goes_ahead, defBody s_Turned_goes_ahead, defScope s_Turned_goes_ahead, []⟩) rfl
  have k_Turned_goes_ahead : PySem.W.keepIn K (.ref (A.getD 36 0)) = true := D_Turned_goes_ahead.kp
  have F_Turned_goes_ahead : Fun K "goes_ahead" "Turned.goes_ahead" s_Turned_goes_ahead (A.getD 36 0) fd_Turned_goes_ahead := funK_of D_Turned_goes_ahead
  have b_Turned_goes_ahead := F_Turned_goes_ahead.binds (ps := ["self", "one", "other", "pages", "now"]) fun _ _ _ _ _ _ us hl => match us, hl with | [_, _, _, _, _], _ => rfl
  obtain ⟨fd_Order_init, D_Order_init⟩ := c.def_ 11 (d := ⟨37, "__init__", "Order.__init__", defArgs s_Order_init, defBody s_Order_init, defScope s_Order_init, []⟩) rfl
  have k_Order_init : PySem.W.keepIn K (.ref (A.getD 37 0)) = true := D_Order_init.kp
  have F_Order_init : Fun K "__init__" "Order.__init__" s_Order_init (A.getD 37 0) fd_Order_init := funK_of D_Order_init
  have b_Order_init := F_Order_init.binds (ps := ["self", "rules"]) fun _ _ _ _ _ _ us hl => match us, hl with | [_, _], _ => rfl
  obtain ⟨fd_Order_goes_ahead, D_Order_goes_ahead⟩ := c.def_ 12 (d := ⟨38, "goes_ahead", "Order.goes_ahead", defArgs s_Order_goes_ahead, defBody s_Order_goes_ahead, defScope s_Order_goes_ahead, []⟩) rfl
  have k_Order_goes_ahead : PySem.W.keepIn K (.ref (A.getD 38 0)) = true := D_Order_goes_ahead.kp
  have F_Order_goes_ahead : Fun K "goes_ahead" "Order.goes_ahead" s_Order_goes_ahead (A.getD 38 0) fd_Order_goes_ahead := funK_of D_Order_goes_ahead
  have b_Order_goes_ahead := F_Order_goes_ahead.binds (ps := ["self", "one", "other", "pages", "now"]) fun _ _ _ _ _ _ us hl => match us, hl with | [_, _, _, _, _], _ => rfl
  obtain ⟨fd_Window_init, D_Window_init⟩ := c.def_ 13 (d := ⟨39, "__init__", "Window.__init__", defArgs s_Window_init, defBody s_Window_init, defScope s_Window_init, []⟩) rfl
  have k_Window_init : PySem.W.keepIn K (.ref (A.getD 39 0)) = true := D_Window_init.kp
  have F_Window_init : Fun K "__init__" "Window.__init__" s_Window_init (A.getD 39 0) fd_Window_init := funK_of D_Window_init
  have b_Window_init := F_Window_init.binds (ps := ["self", "many"]) fun _ _ _ _ _ _ us hl => match us, hl with | [_, _], _ => rfl
  obtain ⟨fd_Window_choose, D_Window_choose⟩ := c.def_ 14 (d := ⟨40, "choose", "Window.choose", defArgs s_Window_choose, defBody s_Window_choose, defScope s_Window_choose, []⟩) rfl
  have k_Window_choose : PySem.W.keepIn K (.ref (A.getD 40 0)) = true := D_Window_choose.kp
  have F_Window_choose : Fun K "choose" "Window.choose" s_Window_choose (A.getD 40 0) fd_Window_choose := funK_of D_Window_choose
  have b_Window_choose := F_Window_choose.binds (ps := ["self", "tallies", "pages", "now"]) fun _ _ _ _ _ _ us hl => match us, hl with | [_, _, _, _], _ => rfl
  obtain ⟨fd_Follow_init, D_Follow_init⟩ := c.def_ 15 (d := ⟨41, "__init__", "Follow.__init__", defArgs s_Follow_init, defBody s_Follow_init, defScope s_Follow_init, []⟩) rfl
  have k_Follow_init : PySem.W.keepIn K (.ref (A.getD 41 0)) = true := D_Follow_init.kp
  have F_Follow_init : Fun K "__init__" "Follow.__init__" s_Follow_init (A.getD 41 0) fd_Follow_init := funK_of D_Follow_init
  have b_Follow_init := F_Follow_init.binds (ps := ["self", "blocks"]) fun _ _ _ _ _ _ us hl => match us, hl with | [_, _], _ => rfl
  obtain ⟨fd_Follow_choose, D_Follow_choose⟩ := c.def_ 16 (d := ⟨42, "choose", "Follow.choose", defArgs s_Follow_choose, defBody s_Follow_choose, defScope s_Follow_choose, []⟩) rfl
  have k_Follow_choose : PySem.W.keepIn K (.ref (A.getD 42 0)) = true := D_Follow_choose.kp
  have F_Follow_choose : Fun K "choose" "Follow.choose" s_Follow_choose (A.getD 42 0) fd_Follow_choose := funK_of D_Follow_choose
  have b_Follow_choose := F_Follow_choose.binds (ps := ["self", "tallies", "pages", "now"]) fun _ _ _ _ _ _ us hl => match us, hl with | [_, _, _, _], _ => rfl
  obtain ⟨fd__law_cell_at, D__law_cell_at⟩ := c.def_ 17 (d := ⟨43, "_law_cell_at", "_law_cell_at", defArgs s__law_cell_at, defBody s__law_cell_at, defScope s__law_cell_at, []⟩) rfl
  have k__law_cell_at : PySem.W.keepIn K (.ref (A.getD 43 0)) = true := D__law_cell_at.kp
  have F__law_cell_at : Fun K "_law_cell_at" "_law_cell_at" s__law_cell_at (A.getD 43 0) fd__law_cell_at := funK_of D__law_cell_at
  have b__law_cell_at := F__law_cell_at.binds (ps := ["_law_script", "_law_k"]) fun _ _ _ _ _ _ us hl => match us, hl with | [_, _], _ => rfl
  obtain ⟨fd__law_whole, D__law_whole⟩ := c.def_ 18 (d := ⟨44, "_law_whole", "_law_whole", defArgs s__law_whole, defBody s__law_whole, defScope s__law_whole, []⟩) rfl
  have k__law_whole : PySem.W.keepIn K (.ref (A.getD 44 0)) = true := D__law_whole.kp
  have F__law_whole : Fun K "_law_whole" "_law_whole" s__law_whole (A.getD 44 0) fd__law_whole := funK_of D__law_whole
  have b__law_whole := F__law_whole.binds (ps := ["_law_found"]) fun _ _ _ _ _ _ us hl => match us, hl with | [_], _ => rfl
  obtain ⟨fd__law_now, D__law_now⟩ := c.def_ 19 (d := ⟨45, "_law_now", "_law_now", defArgs s__law_now, defBody s__law_now, defScope s__law_now, []⟩) rfl
  have k__law_now : PySem.W.keepIn K (.ref (A.getD 45 0)) = true := D__law_now.kp
  have F__law_now : Fun K "_law_now" "_law_now" s__law_now (A.getD 45 0) fd__law_now := funK_of D__law_now
  have b__law_now := F__law_now.binds (ps := ["_law_cell"]) fun _ _ _ _ _ _ us hl => match us, hl with | [_], _ => rfl
  obtain ⟨fd__law_tallies, D__law_tallies⟩ := c.def_ 20 (d := ⟨46, "_law_tallies", "_law_tallies", defArgs s__law_tallies, defBody s__law_tallies, defScope s__law_tallies, []⟩) rfl
  have k__law_tallies : PySem.W.keepIn K (.ref (A.getD 46 0)) = true := D__law_tallies.kp
  have F__law_tallies : Fun K "_law_tallies" "_law_tallies" s__law_tallies (A.getD 46 0) fd__law_tallies := funK_of D__law_tallies
  have b__law_tallies := F__law_tallies.binds (ps := ["_law_script", "_law_start", "_law_pages", "_law_now_here"]) fun _ _ _ _ _ _ us hl => match us, hl with | [_, _, _, _], _ => rfl
  obtain ⟨fd__law_first, D__law_first⟩ := c.def_ 21 (d := ⟨47, "_law_first", "_law_first", defArgs s__law_first, defBody s__law_first, defScope s__law_first, []⟩) rfl
  have k__law_first : PySem.W.keepIn K (.ref (A.getD 47 0)) = true := D__law_first.kp
  have F__law_first : Fun K "_law_first" "_law_first" s__law_first (A.getD 47 0) fd__law_first := funK_of D__law_first
  have b__law_first := F__law_first.binds (ps := ["_law_tallies_here", "_law_ranks"]) fun _ _ _ _ _ _ us hl => match us, hl with | [_, _], _ => rfl
  obtain ⟨fd__law_base, D__law_base⟩ := c.def_ 22 (d := ⟨48, "_law_base", "_law_base", defArgs s__law_base, defBody s__law_base, defScope s__law_base, []⟩) rfl
  have k__law_base : PySem.W.keepIn K (.ref (A.getD 48 0)) = true := D__law_base.kp
  have F__law_base : Fun K "_law_base" "_law_base" s__law_base (A.getD 48 0) fd__law_base := funK_of D__law_base
  have b__law_base := F__law_base.binds (ps := ["_law_kind"]) fun _ _ _ _ _ _ us hl => match us, hl with | [_], _ => rfl
  obtain ⟨fd__law_made, D__law_made⟩ := c.def_ 23 (d := ⟨49, "_law_made", "_law_made", defArgs s__law_made, defBody s__law_made, defScope s__law_made, []⟩) rfl
  have k__law_made : PySem.W.keepIn K (.ref (A.getD 49 0)) = true := D__law_made.kp
  have F__law_made : Fun K "_law_made" "_law_made" s__law_made (A.getD 49 0) fd__law_made := funK_of D__law_made
  have b__law_made := F__law_made.binds (ps := ["_law_cell"]) fun _ _ _ _ _ _ us hl => match us, hl with | [_], _ => rfl
  obtain ⟨fd__law_rank, D__law_rank⟩ := c.def_ 24 (d := ⟨50, "_law_rank", "_law_rank", defArgs s__law_rank, defBody s__law_rank, defScope s__law_rank, []⟩) rfl
  have k__law_rank : PySem.W.keepIn K (.ref (A.getD 50 0)) = true := D__law_rank.kp
  have F__law_rank : Fun K "_law_rank" "_law_rank" s__law_rank (A.getD 50 0) fd__law_rank := funK_of D__law_rank
  have b__law_rank := F__law_rank.binds (ps := ["_law_cell", "_law_tally", "_law_pages", "_law_now_here"]) fun _ _ _ _ _ _ us hl => match us, hl with | [_, _, _, _], _ => rfl
  obtain ⟨fd__law_cells, D__law_cells⟩ := c.def_ 25 (d := ⟨51, "_law_cells", "_law_cells", defArgs s__law_cells, defBody s__law_cells, defScope s__law_cells, []⟩) rfl
  have k__law_cells : PySem.W.keepIn K (.ref (A.getD 51 0)) = true := D__law_cells.kp
  have F__law_cells : Fun K "_law_cells" "_law_cells" s__law_cells (A.getD 51 0) fd__law_cells := funK_of D__law_cells
  have b__law_cells := F__law_cells.binds (ps := ["_law_script"]) fun _ _ _ _ _ _ us hl => match us, hl with | [_], _ => rfl
  obtain ⟨fd__law_turned_good, D__law_turned_good⟩ := c.def_ 26 (d := ⟨52, "_law_turned_good", "_law_turned_good", defArgs s__law_turned_good, defBody s__law_turned_good, defScope s__law_turned_good, []⟩) rfl
  have k__law_turned_good : PySem.W.keepIn K (.ref (A.getD 52 0)) = true := D__law_turned_good.kp
  have F__law_turned_good : Fun K "_law_turned_good" "_law_turned_good" s__law_turned_good (A.getD 52 0) fd__law_turned_good := funK_of D__law_turned_good
  have b__law_turned_good := F__law_turned_good.binds (ps := ["_law_rule", "_law_tallies_here", "_law_ranks", "_law_pages", "_law_now_here"]) fun _ _ _ _ _ _ us hl => match us, hl with | [_, _, _, _, _], _ => rfl
  obtain ⟨fd__law_refused, D__law_refused⟩ := c.def_ 27 (d := ⟨53, "_law_refused", "_law_refused", defArgs s__law_refused, defBody s__law_refused, defScope s__law_refused, []⟩) rfl
  have k__law_refused : PySem.W.keepIn K (.ref (A.getD 53 0)) = true := D__law_refused.kp
  have F__law_refused : Fun K "_law_refused" "_law_refused" s__law_refused (A.getD 53 0) fd__law_refused := funK_of D__law_refused
  have b__law_refused := F__law_refused.binds (ps := ["_law_many"]) fun _ _ _ _ _ _ us hl => match us, hl with | [_], _ => rfl
  obtain ⟨fd_law, D_law⟩ := c.def_ 28 (d := ⟨54, "law", "law", defArgs s_law, defBody s_law, defScope s_law, []⟩) rfl
  have k_law : PySem.W.keepIn K (.ref (A.getD 54 0)) = true := D_law.kp
  have F_law : Fun K "law" "law" s_law (A.getD 54 0) fd_law := funK_of D_law
  have b_law := F_law.binds (ps := ["_law_script"]) fun _ _ _ _ _ _ us hl => match us, hl with | [_], _ => rfl
  let T : Txt K mg := {
    a_is_whole := (A.getD 26 0)
    fd_is_whole := fd_is_whole
    F_is_whole := F_is_whole
    bd_is_whole := b_is_whole
    k_is_whole := k_is_whole
    g_is_whole := PySem.W.mg_of X G a_is_whole
    a_is_within := (A.getD 27 0)
    fd_is_within := fd_is_within
    F_is_within := F_is_within
    bd_is_within := b_is_within
    k_is_within := k_is_within
    g_is_within := PySem.W.mg_of X G a_is_within
    a_Rule_goes_ahead := (A.getD 28 0)
    fd_Rule_goes_ahead := fd_Rule_goes_ahead
    F_Rule_goes_ahead := F_Rule_goes_ahead
    bd_Rule_goes_ahead := b_Rule_goes_ahead
    k_Rule_goes_ahead := k_Rule_goes_ahead
    a_Rule_choose := (A.getD 29 0)
    fd_Rule_choose := fd_Rule_choose
    F_Rule_choose := F_Rule_choose
    bd_Rule_choose := b_Rule_choose
    k_Rule_choose := k_Rule_choose
    a_Fewest_goes_ahead := (A.getD 30 0)
    fd_Fewest_goes_ahead := fd_Fewest_goes_ahead
    F_Fewest_goes_ahead := F_Fewest_goes_ahead
    bd_Fewest_goes_ahead := b_Fewest_goes_ahead
    k_Fewest_goes_ahead := k_Fewest_goes_ahead
    a_Eldest_goes_ahead := (A.getD 31 0)
    fd_Eldest_goes_ahead := fd_Eldest_goes_ahead
    F_Eldest_goes_ahead := F_Eldest_goes_ahead
    bd_Eldest_goes_ahead := b_Eldest_goes_ahead
    k_Eldest_goes_ahead := k_Eldest_goes_ahead
    a_Worth_goes_ahead := (A.getD 32 0)
    fd_Worth_goes_ahead := fd_Worth_goes_ahead
    F_Worth_goes_ahead := F_Worth_goes_ahead
    bd_Worth_goes_ahead := b_Worth_goes_ahead
    k_Worth_goes_ahead := k_Worth_goes_ahead
    a_Weighed_init := (A.getD 33 0)
    fd_Weighed_init := fd_Weighed_init
    F_Weighed_init := F_Weighed_init
    bd_Weighed_init := b_Weighed_init
    k_Weighed_init := k_Weighed_init
    a_Weighed_goes_ahead := (A.getD 34 0)
    fd_Weighed_goes_ahead := fd_Weighed_goes_ahead
    F_Weighed_goes_ahead := F_Weighed_goes_ahead
    bd_Weighed_goes_ahead := b_Weighed_goes_ahead
    k_Weighed_goes_ahead := k_Weighed_goes_ahead
    a_Turned_init := (A.getD 35 0)
    fd_Turned_init := fd_Turned_init
    F_Turned_init := F_Turned_init
    bd_Turned_init := b_Turned_init
    k_Turned_init := k_Turned_init
    a_Turned_goes_ahead := (A.getD 36 0)
    fd_Turned_goes_ahead := fd_Turned_goes_ahead
    F_Turned_goes_ahead := F_Turned_goes_ahead
    bd_Turned_goes_ahead := b_Turned_goes_ahead
    k_Turned_goes_ahead := k_Turned_goes_ahead
    a_Order_init := (A.getD 37 0)
    fd_Order_init := fd_Order_init
    F_Order_init := F_Order_init
    bd_Order_init := b_Order_init
    k_Order_init := k_Order_init
    a_Order_goes_ahead := (A.getD 38 0)
    fd_Order_goes_ahead := fd_Order_goes_ahead
    F_Order_goes_ahead := F_Order_goes_ahead
    bd_Order_goes_ahead := b_Order_goes_ahead
    k_Order_goes_ahead := k_Order_goes_ahead
    a_Window_init := (A.getD 39 0)
    fd_Window_init := fd_Window_init
    F_Window_init := F_Window_init
    bd_Window_init := b_Window_init
    k_Window_init := k_Window_init
    a_Window_choose := (A.getD 40 0)
    fd_Window_choose := fd_Window_choose
    F_Window_choose := F_Window_choose
    bd_Window_choose := b_Window_choose
    k_Window_choose := k_Window_choose
    a_Follow_init := (A.getD 41 0)
    fd_Follow_init := fd_Follow_init
    F_Follow_init := F_Follow_init
    bd_Follow_init := b_Follow_init
    k_Follow_init := k_Follow_init
    a_Follow_choose := (A.getD 42 0)
    fd_Follow_choose := fd_Follow_choose
    F_Follow_choose := F_Follow_choose
    bd_Follow_choose := b_Follow_choose
    k_Follow_choose := k_Follow_choose
    a__law_cell_at := (A.getD 43 0)
    fd__law_cell_at := fd__law_cell_at
    F__law_cell_at := F__law_cell_at
    bd__law_cell_at := b__law_cell_at
    k__law_cell_at := k__law_cell_at
    g__law_cell_at := PySem.W.mg_of X G a__law_cell_at
    a__law_whole := (A.getD 44 0)
    fd__law_whole := fd__law_whole
    F__law_whole := F__law_whole
    bd__law_whole := b__law_whole
    k__law_whole := k__law_whole
    g__law_whole := PySem.W.mg_of X G a__law_whole
    a__law_now := (A.getD 45 0)
    fd__law_now := fd__law_now
    F__law_now := F__law_now
    bd__law_now := b__law_now
    k__law_now := k__law_now
    g__law_now := PySem.W.mg_of X G a__law_now
    a__law_tallies := (A.getD 46 0)
    fd__law_tallies := fd__law_tallies
    F__law_tallies := F__law_tallies
    bd__law_tallies := b__law_tallies
    k__law_tallies := k__law_tallies
    g__law_tallies := PySem.W.mg_of X G a__law_tallies
    a__law_first := (A.getD 47 0)
    fd__law_first := fd__law_first
    F__law_first := F__law_first
    bd__law_first := b__law_first
    k__law_first := k__law_first
    g__law_first := PySem.W.mg_of X G a__law_first
    a__law_base := (A.getD 48 0)
    fd__law_base := fd__law_base
    F__law_base := F__law_base
    bd__law_base := b__law_base
    k__law_base := k__law_base
    g__law_base := PySem.W.mg_of X G a__law_base
    a__law_made := (A.getD 49 0)
    fd__law_made := fd__law_made
    F__law_made := F__law_made
    bd__law_made := b__law_made
    k__law_made := k__law_made
    g__law_made := PySem.W.mg_of X G a__law_made
    a__law_rank := (A.getD 50 0)
    fd__law_rank := fd__law_rank
    F__law_rank := F__law_rank
    bd__law_rank := b__law_rank
    k__law_rank := k__law_rank
    g__law_rank := PySem.W.mg_of X G a__law_rank
    a__law_cells := (A.getD 51 0)
    fd__law_cells := fd__law_cells
    F__law_cells := F__law_cells
    bd__law_cells := b__law_cells
    k__law_cells := k__law_cells
    g__law_cells := PySem.W.mg_of X G a__law_cells
    a__law_turned_good := (A.getD 52 0)
    fd__law_turned_good := fd__law_turned_good
    F__law_turned_good := F__law_turned_good
    bd__law_turned_good := b__law_turned_good
    k__law_turned_good := k__law_turned_good
    g__law_turned_good := PySem.W.mg_of X G a__law_turned_good
    a__law_refused := (A.getD 53 0)
    fd__law_refused := fd__law_refused
    F__law_refused := F__law_refused
    bd__law_refused := b__law_refused
    k__law_refused := k__law_refused
    g__law_refused := PySem.W.mg_of X G a__law_refused
    a_law := (A.getD 54 0)
    fd_law := fd_law
    F_law := F_law
    bd_law := b_law
    k_law := k_law
    lc__law_base := A.getD 77 0
    lt__law_base := A2.getD 0 0
    lcd__law_base := fun_code F__law_base lk__law_base
    C_Rule := (A.getD 2 0)
    g_Rule := PySem.W.mg_of X G aC_Rule
    cl_Rule := ⟨pg_Rule, hd_Rule, po_Rule, sa_Rule⟩
    mk0_Rule := ⟨mi_Rule, oi_Rule, kc_Rule⟩
    m_Rule_goes_ahead := ⟨at_Rule_goes_ahead, fn_Rule_goes_ahead, k_Rule_goes_ahead⟩
    m_Rule_choose := ⟨at_Rule_choose, fn_Rule_choose, k_Rule_choose⟩
    C_Fewest := (A.getD 3 0)
    g_Fewest := PySem.W.mg_of X G aC_Fewest
    cl_Fewest := ⟨pg_Fewest, hd_Fewest, po_Fewest, sa_Fewest⟩
    mk0_Fewest := ⟨mi_Fewest, oi_Fewest, kc_Fewest⟩
    m_Fewest_goes_ahead := ⟨at_Fewest_goes_ahead, fn_Fewest_goes_ahead, k_Fewest_goes_ahead⟩
    m_Fewest_choose := ⟨at_Fewest_choose, fn_Rule_choose, k_Rule_choose⟩
    C_Eldest := (A.getD 4 0)
    g_Eldest := PySem.W.mg_of X G aC_Eldest
    cl_Eldest := ⟨pg_Eldest, hd_Eldest, po_Eldest, sa_Eldest⟩
    mk0_Eldest := ⟨mi_Eldest, oi_Eldest, kc_Eldest⟩
    m_Eldest_goes_ahead := ⟨at_Eldest_goes_ahead, fn_Eldest_goes_ahead, k_Eldest_goes_ahead⟩
    m_Eldest_choose := ⟨at_Eldest_choose, fn_Rule_choose, k_Rule_choose⟩
    C_Worth := (A.getD 5 0)
    g_Worth := PySem.W.mg_of X G aC_Worth
    cl_Worth := ⟨pg_Worth, hd_Worth, po_Worth, sa_Worth⟩
    mk0_Worth := ⟨mi_Worth, oi_Worth, kc_Worth⟩
    m_Worth_goes_ahead := ⟨at_Worth_goes_ahead, fn_Worth_goes_ahead, k_Worth_goes_ahead⟩
    m_Worth_choose := ⟨at_Worth_choose, fn_Rule_choose, k_Rule_choose⟩
    C_Weighed := (A.getD 6 0)
    g_Weighed := PySem.W.mg_of X G aC_Weighed
    cl_Weighed := ⟨pg_Weighed, hd_Weighed, po_Weighed, sa_Weighed⟩
    na_Weighed_weigh := na_Weighed_weigh
    m_Weighed_goes_ahead := ⟨at_Weighed_goes_ahead, fn_Weighed_goes_ahead, k_Weighed_goes_ahead⟩
    m_Weighed_choose := ⟨at_Weighed_choose, fn_Rule_choose, k_Rule_choose⟩
    mk_Weighed := ⟨mi_Weighed, at_Weighed_init, fn_Weighed_init, kc_Weighed⟩
    C_Turned := (A.getD 7 0)
    g_Turned := PySem.W.mg_of X G aC_Turned
    cl_Turned := ⟨pg_Turned, hd_Turned, po_Turned, sa_Turned⟩
    na_Turned_rule := na_Turned_rule
    m_Turned_goes_ahead := ⟨at_Turned_goes_ahead, fn_Turned_goes_ahead, k_Turned_goes_ahead⟩
    m_Turned_choose := ⟨at_Turned_choose, fn_Rule_choose, k_Rule_choose⟩
    mk_Turned := ⟨mi_Turned, at_Turned_init, fn_Turned_init, kc_Turned⟩
    C_Order := (A.getD 8 0)
    g_Order := PySem.W.mg_of X G aC_Order
    cl_Order := ⟨pg_Order, hd_Order, po_Order, sa_Order⟩
    na_Order_rules := na_Order_rules
    m_Order_goes_ahead := ⟨at_Order_goes_ahead, fn_Order_goes_ahead, k_Order_goes_ahead⟩
    m_Order_choose := ⟨at_Order_choose, fn_Rule_choose, k_Rule_choose⟩
    mk_Order := ⟨mi_Order, at_Order_init, fn_Order_init, kc_Order⟩
    C_Window := (A.getD 9 0)
    g_Window := PySem.W.mg_of X G aC_Window
    cl_Window := ⟨pg_Window, hd_Window, po_Window, sa_Window⟩
    na_Window_many := na_Window_many
    m_Window_goes_ahead := ⟨at_Window_goes_ahead, fn_Fewest_goes_ahead, k_Fewest_goes_ahead⟩
    m_Window_choose := ⟨at_Window_choose, fn_Window_choose, k_Window_choose⟩
    mk_Window := ⟨mi_Window, at_Window_init, fn_Window_init, kc_Window⟩
    C_Follow := (A.getD 10 0)
    g_Follow := PySem.W.mg_of X G aC_Follow
    cl_Follow := ⟨pg_Follow, hd_Follow, po_Follow, sa_Follow⟩
    na_Follow_blocks := na_Follow_blocks
    na_Follow_asked := na_Follow_asked
    m_Follow_goes_ahead := ⟨at_Follow_goes_ahead, fn_Rule_goes_ahead, k_Rule_goes_ahead⟩
    m_Follow_choose := ⟨at_Follow_choose, fn_Follow_choose, k_Follow_choose⟩
    mk_Follow := ⟨mi_Follow, at_Follow_init, fn_Follow_init, kc_Follow⟩
    C_WornError := (A.getD 11 0)
    g_WornError := PySem.W.mg_of X G aC_WornError
    xc_WornError := ⟨xq_WornError, xk_WornError, xr_WornError, xt_WornError⟩
    C_NoRule := (A.getD 12 0)
    g_NoRule := PySem.W.mg_of X G aC_NoRule
    xc_NoRule := ⟨xq_NoRule, xk_NoRule, xr_NoRule, xt_NoRule⟩
    C_NoRace := (A.getD 13 0)
    g_NoRace := PySem.W.mg_of X G aC_NoRace
    xc_NoRace := ⟨xq_NoRace, xk_NoRace, xr_NoRace, xt_NoRace⟩
    em_NoRule_WornError := em_NoRule_WornError
    ec_NoRule := ⟨eg_NoRule, ek_NoRule, es_NoRule, ed_NoRule, ea_NoRule, en_NoRule, et_NoRule, eo_NoRule⟩
    ki_NoRule_ValueError := ki_NoRule_ValueError
    kc_NoRule_NoRule := kd_NoRule_NoRule
    kc_NoRule_NoRace := kd_NoRule_NoRace
    b_len := PySem.W.mg_none_of X G z_len
    b_isinstance := PySem.W.mg_none_of X G z_isinstance
    b_min := PySem.W.mg_none_of X G z_min
    b_max := PySem.W.mg_none_of X G z_max
    b_sorted := PySem.W.mg_none_of X G z_sorted
    b_int := PySem.W.mg_none_of X G z_int
    b_list := PySem.W.mg_none_of X G z_list
    b_bool := PySem.W.mg_none_of X G z_bool
    b_range := PySem.W.mg_none_of X G z_range
    b_zip := PySem.W.mg_none_of X G z_zip
    b_ValueError := PySem.W.mg_none_of X G z_ValueError }
  have bl : ∀ (s : Shared) (v : Value), BindsTo s fd_law ⟨[v], []⟩ [("_law_script", v)] := fun s v => by
    have bb := D_law.bindsA (ps := ["_law_script"]) (fun _ _ _ _ _ _ us hl => match us, hl with | [_], _ => rfl) s [v] rfl
    exact bb
  exact ⟨T.fd_law, bl, fun base _ _ hc => ok_law T hc⟩
end My
theorem PySem.Challenge.cw_wornpages_k26_order_holds : PySem.Challenge.rw_wornpages_k26_order.Holds :=
  My.finE fun X G hfa c => My.txt_of X G hfa c
#print axioms PySem.Challenge.cw_wornpages_k26_order_holds
