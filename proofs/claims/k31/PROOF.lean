import PyProof.Rows.All
import Wide.All
import OpenK.AllK
import Wide.FinOn
import HandS.ForMost
import HandS.ForExc
import HandS.Flow
import HandS.Wide
import HandS.WideBits
import HandS.IsInst
import HandS.ExcInit
import HandS.ExcField
import HandS.ExcIs
import HandS.TryMany
import HandS.SetKeys
import HandS.More
import HandS.Deep
import HandS.TupSets
import HandS.SortRule
import HandS.SortInts
import HandS.Walk
import HandS.RevTup
import HandS.Rev
import HandS.Conv
import HandS.WordsDict
import HandS.Style
import HandS.HeadHook2
import HandS.DictTup
import HandS.SortKw
import KE.DataMinMax
import HandS.HotCalls
import HandS.SuiteRaise
import HandS.SetFor
import HandS.Strs
import HandS.ExcValue
import HandS.Head0
import HandS.Head1
import HandS.Head2
import HandS.HeadEnd
import HandS.HeadHook1
import HandS.Lambda
import HandS.EndTab
import PySem.Challenge.RW_wornpages_k31_a_new_store
set_option Elab.async false
set_option linter.all false
set_option maxRecDepth 100000
set_option maxHeartbeats 4000000
/-! Kit: unified operators, method calls by the receiver's class, and step lemmas for readings. -/
namespace Kit
open PySem PySem.Spec PyProof.Rows L2
section
variable {X : Cx}
/-! ### unified operators -/
abbrev rStrAdd : R2 := fun x y H Q => ∃ i j, x = .str i ∧ y = .str j ∧ i.length + j.length ≤ sizeLine ∧ Q (.str (i ++ j)) H
def uAdd (K : PySem.W.Frag) : R2 := fun x y H Q => rI0 (fun i j => .int (i + j)) x y H Q ∨ (rStrAdd x y H Q ∨ (rCat x y H Q ∨ rCatT K x y H Q))
theorem op_uAdd : OpR X (binaryOp .Add) (uAdd X.K) := op_add.or (op_add_str.or (op_cat.or op_catT))
def uMul : R2 := fun x y H Q => rI CMul (fun i j => .int (i * j)) x y H Q ∨ (rRep x y H Q ∨ rI CMulW (fun i j => .int (i * j)) x y H Q)
theorem op_uMul : OpR X (binaryOp .Mult) uMul := op_mul.or (op_rep.or op_mulW)
def uShl : R2 := rI CShl fun i j => .int (i * 2 ^ j.toNat)
theorem op_uShl : OpR X (binaryOp .LShift) uShl := op_shlW
def uEq (K : PySem.W.Frag) : R2 := fun x y H Q => rEq x y H Q ∨ rEqD K x y H Q
theorem op_uEq (hu : X.A.units + 64 < cLine) : OpR X (compareOp .Eq) (uEq X.K) := op_eq.or (op_eqD hu)
def uNe (K : PySem.W.Frag) : R2 := fun x y H Q => rNe x y H Q ∨ rNeD K x y H Q
theorem op_uNe (hu : X.A.units + 64 < cLine) : OpR X (compareOp .NotEq) (uNe X.K) := op_ne.or (op_neD hu)
abbrev rLtI : R2 := rI0 fun i j => .bl (decide (i < j))
def uLt : R2 := rLtI
theorem op_uLt : OpR X (compareOp .Lt) uLt := op_lt
def uIn (K : PySem.W.Frag) : R2 := rIn K false
def uNotIn (K : PySem.W.Frag) : R2 := rIn K true
abbrev rIsNon : R2 := fun x y H Q => y = .non ∧ Q (.bl (decide (x = .non))) H
abbrev rIsNotNon : R2 := fun x y H Q => y = .non ∧ Q (.bl (!decide (x = .non))) H
def uIs : R2 := fun x y H Q => rIsNon x y H Q ∨ rIsB x y H Q
theorem op_uIs : OpR X (compareOp .Is) uIs := op_isN.or op_isBl
def uIsNot : R2 := fun x y H Q => rIsNotNon x y H Q ∨ rNotB x y H Q
theorem op_uIsNot : OpR X (compareOp .IsNot) uIsNot := op_notN.or op_notBl
/-! ### calls -/
theorem passL2 : ∀ σ, PassesAt (L2.CX X.prog X.w) X σ ((fun _ => E0) σ) := fun _ _ _ _ _ _ _ h => by
  obtain ⟨_, _, _, _, _, _, _, _, _, _, _, _, z⟩ := h
  exact z.elim
/-- a method of a class, by what it promises -/
structure MO (P : Program) (w : World) (K : PySem.W.Frag) (mg : Str → Option Value) (base : Heap) (CX : CXT) (n : Nat) (C : Addr) (m : Str) (sp : Sp) : Prop where
  ex : ∃ f fd ps, Cls K C ∧ Meth K C m f ∧ FnOk P w K mg base CX n f fd ps sp ∧ Binds K fd ps []
variable {CX : CXT} {k : Nat} {f C : Addr} {fd : FuncData} {ps : List Str} {sp : Sp} {dvs : List V} {ds : List Value} {E : L2.St → XK} {x m : Str} {p pos apos : Pos} {e o : Expr} {es : List Expr} {ta : TE} {t : TA}
/-- o.m(..), by the class that o has -/
def mtK (P : Program) (w : World) (K : PySem.W.Frag) (mg : Str → Option Value) (base : Heap) (CX : CXT) (n : Nat) (m : Str) (E : XK) (σ : L2.St) (t : TA) (Q : VK) : V → Hp → Prop := fun x H1 => ∃ a C dx fs sp, x = .ref a ∧ H1 a = some (.ins C dx fs) ∧ fs.lookup m = none ∧
  MO P w K mg base CX n C m sp ∧ t σ H1 fun vs H2 => sp (x :: vs) H2 Q E
def tMethD (P : Program) (w : World) (K : PySem.W.Frag) (mg : Str → Option Value) (base : Heap) (CX : CXT) (n : Nat) (m : Str) (E : L2.St → XK) (ta : TE) (t : TA) : TE := fun σ H Q => ta σ H (mtK P w K mg base CX n m (E σ) σ t Q)
theorem pe_methD {pl : Sem Bool} (he : PE X o ta) (hr : Room k X.A) (hx : ∀ σ, PassesAt CX X σ (E σ)) (ha : PA X (e :: es) t)
    (hst : starEach (e :: es) X.env = (false, eval e X.env) :: starEach es X.env := by rfl) (hpl : (backTo pos (starEach es X.env)).any (·.1) = false := by rfl)
    (ht : eval (.Call (.Attribute o m apos) (e :: es) [] pos) X.env = (do
      let ov ← eval o X.env
      standAt apos.atName
      let (f, first) ← holding [ov] (getMethod ov m pl)
      callWith pos f first (backTo pos (starEach (e :: es) X.env)) (backToKw pos (keywordEach [] X.env))) := by rfl) :
    PE X (.Call (.Attribute o m apos) (e :: es) [] pos) (tMethD X.prog X.w X.K X.mg X.base CX k m E ta t) := by
  refine ⟨fun pins s σ H Q I h => ?_⟩
  refine PySem.W.methodCall_KW (pl := pl) (thn (he.run pins s σ H _ I h) fun u s1 ⟨x, H1, I1, rx, a, C, dx, fs, sp, ex, ea, l, mo, q⟩ => ?_) ht
  subst ex
  obtain rfl : u = Value.ref a := rx
  obtain ⟨f, fd, ps, c, hm, F, hb⟩ := mo.ex
  refine getmeth_ok I1 ea c hm l ?_
  refine PySem.W.callWith_K (first := [.ref a]) (h₀ := X.base) I.ok.mod.kin hm.kp (thn (ha.run pos pins s1 σ H1 _ I1 q) fun us s2 ⟨vs, H2, I2, r, q2⟩ => ⟨I2.kIn, ?_⟩) hst hpl
  exact run_fnS (us := .ref a :: us) (vs := .ref a :: vs) F hr hb (hx σ) I2 (.cons rfl r) q2
theorem pe_methD0 {pl : Sem Bool} (he : PE X o ta) (hr : Room k X.A) (hx : ∀ σ, PassesAt CX X σ (E σ))
    (ht : eval (.Call (.Attribute o m apos) [] [] pos) X.env = (do
      let ov ← eval o X.env
      standAt apos.atName
      let (f, first) ← holding [ov] (getMethod ov m pl)
      callWith pos f first (backTo pos (starEach [] X.env)) (backToKw pos (keywordEach [] X.env))) := by rfl) :
    PE X (.Call (.Attribute o m apos) [] [] pos) (tMethD X.prog X.w X.K X.mg X.base CX k m E ta tNil) := by
  refine ⟨fun pins s σ H Q I h => ?_⟩
  refine PySem.W.methodCall_KW (pl := pl) (thn (he.run pins s σ H _ I h) fun u s1 ⟨x, H1, I1, rx, a, C, dx, fs, sp, ex, ea, l, mo, q⟩ => ?_) ht
  subst ex
  obtain rfl : u = Value.ref a := rx
  obtain ⟨f, fd, ps, c, hm, F, hb⟩ := mo.ex
  refine getmeth_ok I1 ea c hm l ?_
  exact PySem.W.callWith_K0 (first := [.ref a]) I1.kIn hm.kp (run_fnS (us := [.ref a]) (vs := [.ref a]) F hr hb (hx σ) I1 (.cons rfl .nil) q)
/-- C(..), what is raised at the slots -/
def tMakeS (C : Addr) (sp : Sp) (dvs : List V) (E : L2.St → XK) (t : TA) : TE := fun σ H Q => t σ H fun vs H1 => ∀ x dx, H1 x = none → H1 dx = none → dx ≠ x →
  sp (.ref x :: (vs ++ dvs)) (upd (upd H1 dx (.own x)) x (.ins C dx [])) (fun v H2 => v = .non ∧ Q (.ref x) H2) (E σ)
end
section
variable {X : Cx} {CX : CXT} {k : Nat} {f C : Addr} {fd : FuncData} {ps : List Str} {sp : Sp} {dvs : List V} {ds : List Value} {E : L2.St → XK} {x : Str} {p pos : Pos} {e : Expr} {es : List Expr} {t : TA}
/-- a class without an own __init__ -/
structure Mk0 (K : PySem.W.Frag) (C : Addr) : Prop where
  makes : PySem.W.makesIn K C = true
  init : PySem.W.findIn K (.ref C) "__init__" = some (some (.builtin "object.__init__"))
  kp : PySem.W.keepIn K (.ref C) = true
theorem run_make0 {pins : List (Addr × Obj)} {σ : L2.St} {H : Hp} {s : Shared} {Q : VK} (M : Mk0 X.K C) (I : Inv X pins σ H s)
    (h : ∀ x dx, H x = none → H dx = none → dx ≠ x → Q (.ref x) (upd (upd H dx (.own x)) x (.ins C dx []))) : wpAny (model X.prog X.w) X.A (call (.ref C) []) (EP X pins σ Q) X.xe s := by
  have hq := h (s.heap.objs.size + 1) s.heap.objs.size (I.hok.fresh (Nat.le_succ _)) (I.hok.fresh (Nat.le_refl _)) (Nat.ne_of_lt (Nat.lt_succ_self _))
  have I2 := Inv.made (C := C) I
  have KX := I.kIn
  have Y := PySem.W.makes_of (M := model X.prog X.w) KX M.makes
  obtain ⟨hh, g, d, t, os⟩ := s
  refine wpAny_call (PySem.W.make_core Y (PySem.W.looks_findIn KX M.init) (fun self => PySem.W.Looks.of_pure (PySem.W.oi_bind self)) (.inr ⟨rfl, rfl⟩) ?_)
  have e1 : ((hh.push PySem.W.emptyDict).push (PySem.W.instObj C hh.objs.size)).get? (hh.objs.size + 1) = some (PySem.W.instObj C hh.objs.size) := by heap_get
  have t1 : PySem.W.Looks (model X.prog X.w) ((hh.push PySem.W.emptyDict).push (PySem.W.instObj C hh.objs.size)) (typeOf (.ref (hh.objs.size + 1))) (.ref C) := (PySem.W.Looks.ld e1).andThen .now
  have t2 : PySem.W.Looks (model X.prog X.w) ((hh.push PySem.W.emptyDict).push (PySem.W.instObj C hh.objs.size)) (isInstance (.ref (hh.objs.size + 1)) (.type "object")) true :=
    t1.andThen (Y.top.keeps fun b o e => Heap.get?_push_of_some _ (Heap.get?_push_of_some _ e))
  refine codeAny_call_builtin PySem.W.oi_plain PySem.W.entry_oi (@PySem.W.check_slot (model X.prog X.w) _ _ _ "object.__init__" "object" "__init__" (.ref (hh.objs.size + 1)) [] [] _ PySem.W.oi_kind PySem.W.oi_split t2 (PySem.W.oi_args (.ref (hh.objs.size + 1))) ?_)
  rw [PySem.W.oi_run]
  exact wpAny_pure (And.intro rfl ⟨V.ref (hh.objs.size + 1), _, I2, rfl, hq⟩)
def tMake0 (C : Addr) : TE := fun _ H Q => ∀ x dx, H x = none → H dx = none → dx ≠ x → Q (.ref x) (upd (upd H dx (.own x)) x (.ins C dx []))
theorem pe_mkN (M : Mk0 X.K C) (hg : Gl X x) (hm : X.mg x = some (.ref C)) (hdb : (x == ("__debug__" : Str)) = false := by decide) : PE X (.Call (.Name x p) [] [] pos) (tMake0 C) := by
  refine ⟨fun pins s σ H Q I h => ?_⟩
  refine wpAny_Call_Name_kw (ld_glob I hg hm ?_ hdb)
  exact PySem.W.callWith_K0 I.kIn M.kp (run_make0 M I h)
theorem run_makeS {pins : List (Addr × Obj)} {σ : L2.St} {H : Hp} {s : Shared} {Q : VK} {us : List Value} {vs : List V} (M : Mk X.K C f) (F : FnOk X.prog X.w X.K X.mg X.base CX k f fd ps sp) (hr : Room (k + 1) X.A) (hb : Binds X.K fd ps ds) (hd : Vals dvs ds)
    (hx : ∀ σ, PassesAt CX X σ (E σ)) (I : Inv X pins σ H s) (r : Vals vs us)
    (h : ∀ x dx, H x = none → H dx = none → dx ≠ x → sp (.ref x :: (vs ++ dvs)) (upd (upd H dx (.own x)) x (.ins C dx [])) (fun v H2 => v = .non ∧ Q (.ref x) H2) (E σ)) :
    wpAny (model X.prog X.w) X.A (call (.ref C) us) (EP X pins σ Q) X.xe s := by
  have hq := h (s.heap.objs.size + 1) s.heap.objs.size (I.hok.fresh (Nat.le_succ _)) (I.hok.fresh (Nat.le_refl _)) (Nat.ne_of_lt (Nat.lt_succ_self _))
  have I2 := Inv.made (C := C) I
  have r2 : Vals (V.ref (s.heap.objs.size + 1) :: (vs ++ dvs)) (Value.ref (s.heap.objs.size + 1) :: (us ++ ds)) := .cons rfl (r.append hd)
  have hl : (Value.ref (s.heap.objs.size + 1) :: us ++ ds).length = ps.length := by
    have e := r2.length
    rw [F.len _ _ _ _ hq] at e
    exact e.symm
  refine wpAny_call (make_map (f := f) I.kIn M.makes M.init (beq_iff_eq.mp M.fn) (codeAny_mono (F.run _ X.stack _ _ ⟨Value.ref (s.heap.objs.size + 1) :: us, []⟩ (Value.ref (s.heap.objs.size + 1) :: (us ++ ds)) _ _ (E σ) (hr.make C us [])
    (I2.env0.make C us []) (hb _ (Value.ref (s.heap.objs.size + 1) :: us) I2.kIn hl) r2 hq) fun r s' hq' => ?_))
  cases r with
  | error e => exact hx σ pins _ _ e s' I2 hq'
  | ok fl =>
    cases fl with
    | ret u =>
      obtain ⟨v, H', I3, rv, ev, q3⟩ := I2.after hq'
      subst ev
      exact ⟨rv, ⟨V.ref (s.heap.objs.size + 1), H', I3, rfl, q3⟩⟩
    | next => exact False.elim hq'
    | brk => exact False.elim hq'
    | cont => exact False.elim hq'
theorem pe_mkS (M : Mk X.K C f) (F : FnOk X.prog X.w X.K X.mg X.base CX k f fd ps sp) (hr : Room (k + 1) X.A) (hg : Gl X x) (hm : X.mg x = some (.ref C)) (hb : Binds X.K fd ps ds) (hd : Vals dvs ds) (hx : ∀ σ, PassesAt CX X σ (E σ))
    (ha : PA X (e :: es) t) (hdb : (x == ("__debug__" : Str)) = false := by decide) (he : starEach (e :: es) X.env = (false, eval e X.env) :: starEach es X.env := by rfl) (hpl : (backTo pos (starEach es X.env)).any (·.1) = false := by rfl) :
    PE X (.Call (.Name x p) (e :: es) [] pos) (tMakeS C sp dvs E t) := by
  refine ⟨fun pins s σ H Q I h => ?_⟩
  refine wpAny_Call_Name_kw (ld_glob I hg hm ?_ hdb)
  refine PySem.W.callWith_K (h₀ := X.base) I.ok.mod.kin M.kp (thn (ha.run pos pins s σ H _ I h) fun us s1 ⟨vs, H1, I1, r, q⟩ => ⟨I1.kIn, ?_⟩) he hpl
  exact run_makeS M F hr hb hd hx I1 r q
end
/-! ### steps: statements -/
section
variable {σ : L2.St} {H H1 : Hp} {K : PySem.W.Frag} {D : Ends} {t u : TS} {te ta tb : TE} {c : TT} {i : Nat} {v x y : V} {Q : VK} {QB : Bool → Hp → Prop} {A B : Prop} {b : Bool}
theorem x_seq (h : t { D with nx := u D } σ H) : tSeq t u D σ H := h
theorem x_seqA {g : TG} (h : tAsg te g { D with nx := u D } σ H) : tSeq (tAsg te g) u D σ H := h
theorem x_seqD (h : tDrop te { D with nx := u D } σ H) : tSeq (tDrop te) u D σ H := h
theorem x_seqF {f : Str} (h : sFld K ta te f { D with nx := u D } σ H) : tSeq (sFld K ta te f) u D σ H := h
theorem x_seqFA {f : Str} {rd : V → V → Hp → VK → Prop} (h : sFldAug K ta te rd f { D with nx := u D } σ H) : tSeq (sFldAug K ta te rd f) u D σ H := h
theorem x_seqAug {ti : TIp} (h : tAug i te ti { D with nx := u D } σ H) : tSeq (tAug i te ti) u D σ H := h
theorem x_next (q : D.nx σ H) : tNext D σ H := q
theorem x_asg {g : TG} (h : te σ H fun x H1 => g x σ H1 D.nx) : tAsg te g D σ H := h
theorem x_gname {QS : L2.St → Hp → Prop} (q : QS (σ.set i (some v)) H) : gName i v σ H QS := q
theorem x_ret (h : te σ H D.rt) : tRet te D σ H := h
theorem x_retN (h : D.rt .non H) : tRetN D σ H := h
theorem x_drop (h : te σ H fun _ H1 => D.nx σ H1) : tDrop te D σ H := h
theorem x_if (h : c σ H fun b H1 => if b = true then t D σ H1 else u D σ H1) : tIfS c t u D σ H := h
theorem x_iteT (h : A) : if true = true then A else B := iteT h
theorem x_iteF (h : B) : if false = true then A else B := iteF h
theorem x_iteD {p : Prop} [Decidable p] (h1 : p → A) (h2 : ¬ p → B) : if decide p = true then A else B := by
  by_cases h : p
  · rw [decide_eq_true h]; exact iteT (h1 h)
  · rw [decide_eq_false h]; exact iteF (h2 h)
theorem x_iteN (h : if b = true then B else A) : if (!b) = true then A else B := by
  cases b with
  | true => exact h
  | false => exact h
theorem x_iteB (h1 : b = true → A) (h2 : b = false → B) : if b = true then A else B := by
  cases b with
  | true => exact iteT (h1 rfl)
  | false => exact iteF (h2 rfl)
/-- ways that join: J holds at the end of t on every way -/
theorem x_join (J : L2.St → Hp → Prop) (h1 : ∀ R : L2.St → Hp → Prop, (∀ σ' H', J σ' H' → R σ' H') → t { D with nx := R } σ H) (h2 : ∀ σ' H', J σ' H' → u D σ' H') : tSeq t u D σ H := h1 (u D) h2
/-! ### steps: expressions -/
theorem x_var (h : σ[i]? = some (some v)) (q : Q v H) : tVar i σ H Q := ⟨v, h, q⟩
theorem x_c (q : Q v H) : tC v σ H Q := q
theorem x_op {r : R2} (h : ta σ H fun x H1 => tb σ H1 fun y H2 => r x y H2 Q) : tOp r ta tb σ H Q := h
theorem x_un {r : V → Hp → VK → Prop} (h : ta σ H fun x H1 => r x H1 Q) : tUn r ta σ H Q := h
theorem x_cb {r : List V → Hp → VK → Prop} {t : TA} (h : t σ H fun vs H1 => r vs H1 Q) : tCB r t σ H Q := h
theorem x_nil {QA : List V → Hp → Prop} (q : QA [] H) : tNil σ H QA := q
theorem x_cons {QA : List V → Hp → Prop} {tr : TA} (h : ta σ H fun x H1 => tr σ H1 fun xs H2 => QA (x :: xs) H2) : tCons ta tr σ H QA := h
theorem x_callS {sp : Sp} {E : L2.St → XK} {t : TA} (h : t σ H fun vs H1 => sp vs H1 Q (E σ)) : tCallS sp E t σ H Q := h
theorem x_ifExp (h : c σ H fun c H1 => if c = true then ta σ H1 Q else tb σ H1 Q) : tIf c ta tb σ H Q := h
theorem x_test (h : te σ H fun x H' => ∃ k, x = .bl k ∧ QB k H') : tTest te σ H QB := h
theorem x_tB (h : te σ H fun x H' => ∃ k, x = .bl k ∧ QB k H') : tB te σ H QB := h
theorem x_and {t u : TT} (h : t σ H fun c H1 => if c = true then u σ H1 QB else QB false H1) : tAnd t u σ H QB := h
theorem x_or {t u : TT} (h : t σ H fun c H1 => if c = true then QB true H1 else u σ H1 QB) : tOr t u σ H QB := h
theorem x_not {t : TT} (h : t σ H fun c H1 => QB (!c) H1) : tNot t σ H QB := h
theorem x_andT (h : ta σ H fun x H1 => ∃ k, TruV K x H1 k ∧ if k = true then tb σ H1 Q else Q x H1) : tAndT K ta tb σ H Q := h
theorem x_orT (h : ta σ H fun x H1 => ∃ k, TruV K x H1 k ∧ if k = true then Q x H1 else tb σ H1 Q) : tOrT K ta tb σ H Q := h
theorem x_notT (h : ta σ H fun x H1 => ∃ k, TruV K x H1 k ∧ Q (.bl (!k)) H1) : tNotT K ta σ H Q := h
theorem x_truBl {P : Bool → Prop} (h : P b) : ∃ k, TruV K (.bl b) H k ∧ P k := ⟨b, rfl, h⟩
theorem x_isbl {P : Bool → Prop} (h : P b) : ∃ k, V.bl b = .bl k ∧ P k := ⟨b, rfl, h⟩
theorem x_chain {r r' : R2} {tc : TE} (h : ta σ H fun x H1 => tb σ H1 fun y H2 => r x y H2 fun z H3 => ∃ k, z = .bl k ∧ if k = true then tc σ H3 fun z' H4 => r' y z' H4 Q else Q (.bl false) H3) : tChain r r' ta tb tc σ H Q := h
/-! ### steps: operators on values -/
variable {m n : Int} {s1 s2 : Str}
theorem x_addI (q : Q (.int (m + n)) H) : uAdd K (.int m) (.int n) H Q := .inl ⟨m, n, rfl, rfl, q⟩
theorem x_addS (q : Q (.str (s1 ++ s2)) H) (h : s1.length + s2.length ≤ sizeLine) : uAdd K (.str s1) (.str s2) H Q := .inr (.inl ⟨s1, s2, rfl, rfl, h, q⟩)
theorem x_I0 {g : Int → Int → V} (q : Q (g m n) H) : rI0 g (.int m) (.int n) H Q := ⟨m, n, rfl, rfl, q⟩
theorem x_I {C : Int → Int → Prop} {g : Int → Int → V} (q : Q (g m n) H) (h : C m n) : rI C g (.int m) (.int n) H Q := ⟨m, n, rfl, rfl, h, q⟩
theorem x_pow {g : Int → Int → V} (q : Q (g m n) H) (h : CPow m n) : rI CPow g (.int m) (.int n) H Q := ⟨m, n, rfl, rfl, h, q⟩
theorem x_lt (q : Q (.bl (decide (m < n))) H) : uLt (.int m) (.int n) H Q := ⟨m, n, rfl, rfl, q⟩
theorem x_mulI (q : Q (.int (m * n)) H) (h : CMul m n) : uMul (.int m) (.int n) H Q := .inl ⟨m, n, rfl, rfl, h, q⟩
theorem x_mulU (q : Q (.int (m * n)) H) (h : m.natAbs < 2 ^ 250 ∧ n.natAbs < 2 ^ 250) : uMul (.int m) (.int n) H Q := .inr (.inr ⟨m, n, rfl, rfl, wide_mul h.1 h.2 (by decide) (by decide) (by decide), q⟩)
theorem same_upd {o : HO} {p : Addr} (h : H p = none) : Same H (upd H p o) := fun b u e => by rw [upd_ne (ne_of_none e h)]; exact e
theorem cutV_from {xs : List V} (k : Nat) : cutV xs (some (k : Int)) none = xs.drop k := by
  unfold cutV
  rw [HT.sIx_nat, HT.sIx_none]
  by_cases h : k ≤ xs.length
  · rw [Nat.min_eq_left h, List.take_of_length_le (by rw [List.length_drop]; exact Nat.le_refl _)]
  · rw [Nat.min_eq_right (by omega), List.drop_of_length_le (Nat.le_refl _), List.drop_of_length_le (by omega), List.take_nil]
theorem cutV_to {xs : List V} (k : Nat) : cutV xs none (some (k : Int)) = xs.take k := by
  unfold cutV
  rw [HT.sIx_nat, HT.sIx_none, List.drop_zero, Nat.sub_zero]
  by_cases h : k ≤ xs.length
  · rw [Nat.min_eq_left h]
  · rw [Nat.min_eq_right (by omega), List.take_of_length_le (Nat.le_refl _), List.take_of_length_le (by omega)]
/-- a new object: what is asked of it -/
abbrev New (H : Hp) (Q : VK) (o : HO) : Prop := ∀ p H1, H p = none → Same H H1 → H1 p = some o → Q (.ref p) H1
theorem New.mk {o : HO} (h : New H Q o) : ∀ p, H p = none → Q (.ref p) (upd H p o) := fun p hp => h p _ hp (same_upd hp) upd_same
def nwL (Q : VK) : List V → Hp → Prop := fun xs H1 => xs.length ≤ sizeLine ∧ ∀ p, H1 p = none → Q (.ref p) (upd H1 p (.lst xs))
def nwT (Q : VK) : List V → Hp → Prop := fun xs H1 => xs.length ≤ sizeLine ∧ ∀ p, H1 p = none → Q (.ref p) (upd H1 p (.tup xs))
theorem x_nwL {xs : List V} (h : New H Q (.lst xs)) (hl : xs.length ≤ sizeLine) : nwL Q xs H := ⟨hl, h.mk⟩
theorem x_nwT {xs : List V} (h : New H Q (.tup xs)) (hl : xs.length ≤ sizeLine) : nwT Q xs H := ⟨hl, h.mk⟩
theorem x_addL {l l' : Addr} {xs ys : List V} (h1 : H l = some (.lst xs)) (h2 : H l' = some (.lst ys)) (q : New H Q (.lst (xs ++ ys))) (hl : xs.length + ys.length ≤ sizeLine) : uAdd K (.ref l) (.ref l') H Q :=
  .inr (.inr (.inl ⟨l, l', xs, ys, rfl, rfl, h1, h2, hl, q.mk⟩))
theorem x_rep {l : Addr} {xs : List V} (h1 : H l = some (.lst xs)) (q : New H Q (.lst (List.replicate n.toNat xs).flatten)) (h2 : n < 2 ^ 63) (h0 : 0 ≤ n) (hl : xs.length * n.toNat ≤ sizeLine) : uMul (.ref l) (.int n) H Q :=
  .inr (.inl ⟨l, n, xs, rfl, rfl, h1, Int.le_trans (by decide) h0, h2, hl, q.mk⟩)
theorem flat_rep {v : V} : ∀ n : Nat, (List.replicate n [v]).flatten = List.replicate n v
  | 0 => rfl
  | n + 1 => by rw [List.replicate_succ, List.flatten_cons, flat_rep n]; rfl
/-- [v] * n -/
theorem x_rep1 {l : Addr} {v : V} (h1 : H l = some (.lst [v])) (q : New H Q (.lst (List.replicate n.toNat v))) (h : 0 ≤ n ∧ n ≤ 1000000) : uMul (.ref l) (.int n) H Q :=
  x_rep h1 (by rw [flat_rep]; exact q) (by omega) h.1 (by rw [List.length_singleton, Nat.one_mul]; exact Nat.le_trans (show n.toNat ≤ 1000000 by omega) (by decide))
theorem cdivW {i j : Int} (h : 0 < j) (h2 : j < 10 ^ 60) : CDivW i j := by
  refine wide_div (b := 200) h ?_ (by decide) (by decide)
  have : (2:Nat) ^ 200 = 1606938044258990275541962092341162602522202993782792835301376 := by decide
  omega
theorem x_shl (q : Q (.int (m * 2 ^ n.toNat)) H) (h : CShl m n) : uShl (.int m) (.int n) H Q := ⟨m, n, rfl, rfl, h, q⟩
theorem x_U {g : Int → V} (q : Q (g m) H) : rU g (.int m) H Q := ⟨m, rfl, q⟩
theorem x_eqI (q : Q (.bl (decide (m = n))) H) : uEq K (.int m) (.int n) H Q := .inl ⟨rfl, by rw [dec_int, ← Bool.beq_eq_decide_eq] at *; exact q⟩
theorem x_neI (q : Q (.bl (!decide (m = n))) H) : uNe K (.int m) (.int n) H Q := .inl ⟨rfl, by rw [dec_int, ← Bool.beq_eq_decide_eq] at *; exact q⟩
theorem x_eqB {b c : Bool} (q : Q (.bl (decide (b = c))) H) : uEq K (.bl b) (.bl c) H Q := .inl ⟨rfl, by rw [dec_bl, ← Bool.beq_eq_decide_eq] at *; exact q⟩
theorem x_neB {b c : Bool} (q : Q (.bl (!decide (b = c))) H) : uNe K (.bl b) (.bl c) H Q := .inl ⟨rfl, by rw [dec_bl, ← Bool.beq_eq_decide_eq] at *; exact q⟩
theorem x_eqS (q : Q (.bl (decide (s1 = s2))) H) : uEq K (.str s1) (.str s2) H Q := .inl ⟨rfl, by rw [dec_str] at *; rw [show decide (s1 = s2) = (s1 == s2) from by rw [Bool.beq_eq_decide_eq]] at q; exact q⟩
theorem x_tup {t : TA} (h : t σ H (nwT Q)) : tTup t σ H Q := h
theorem x_lst {t : TA} (h : t σ H (nwL Q)) : tLst t σ H Q := h
/-! ### steps: sequences -/
variable {p : Addr} {xs : List V} {ns : List Int}
theorem atI_getD {α : Type} {xs : List α} {i : Int} (d : α) (h0 : 0 ≤ i) (h1 : i < xs.length) : atI xs i = some (xs.getD i.toNat d) := by
  obtain ⟨j, rfl⟩ : ∃ j : Nat, i = (j : Int) := ⟨i.toNat, by omega⟩
  have hj : j < xs.length := by omega
  exact atI_nat (by simp [hj])
theorem x_ixI (h : SqL K H p (ns.map V.int)) (q : Q (.int (ns.getD n.toNat 0)) H) (h0 : 0 ≤ n) (h1 : n < ns.length) : rIx K (.ref p) (.int n) H Q :=
  .inl ⟨p, _, n, _, rfl, rfl, h, by
    rw [atI_getD (.int 0) h0 (by rw [List.length_map]; exact h1)]
    have hn : n.toNat < ns.length := by omega
    simp [hn], q⟩
theorem x_ixS (h : SqL K H p xs) (ha : atI xs n = some v) (q : Q v H) : rIx K (.ref p) (.int n) H Q := .inl ⟨p, _, n, _, rfl, rfl, h, ha, q⟩
theorem atI_0 {α : Type} {x : α} {xs : List α} : atI (x :: xs) 0 = some x := atI_nat (j := 0) (by simp)
theorem x_ixH (h : SqL K H p (v :: xs)) (q : Q v H) : rIx K (.ref p) (.int 0) H Q := .inl ⟨p, _, 0, _, rfl, rfl, h, atI_0, q⟩
theorem x_ixL (h : SqL K H p xs) (q : Q (xs.getD n.toNat .non) H) (h0 : 0 ≤ n) (h1 : n < xs.length) : rIx K (.ref p) (.int n) H Q :=
  .inl ⟨p, _, n, _, rfl, rfl, h, atI_getD _ h0 h1, q⟩
theorem x_ixT (h : SqT K H p xs) (ha : atI xs n = some v) (q : Q v H) : rIx K (.ref p) (.int n) H Q :=
  .inr (.inl ⟨p, _, n, _, rfl, rfl, h, ha, q⟩)
end
/-! ### data -/
section
variable {X : Cx} {σ : L2.St} {H H' : Hp} {K : PySem.W.Frag} {Q : VK} {x y : V}
theorem cl_all : ∀ ds : List PyData, PyData.canLayAll0 ds = true ↔ ∀ d ∈ ds, PyData.canLay0 d = true
  | [] => by simp [PyData.canLayAll0]
  | d :: ds => by rw [PyData.canLayAll0, Bool.and_eq_true, cl_all ds]; simp
theorem dp_all {k : Nat} : ∀ ds : List PyData, PyData.depthAll ds ≤ k ↔ ∀ d ∈ ds, PyData.depth d ≤ k
  | [] => by simp [PyData.depthAll]
  | d :: ds => by rw [PyData.depthAll, Nat.max_le, dp_all ds]; simp
/-- data of a depth that can be compared -/
def Sh (k : Nat) (d : PyData) : Prop := d.canLay0 = true ∧ d.depth ≤ k
theorem Sh.list {k : Nat} {ds : List PyData} (h : ∀ d ∈ ds, Sh k d) : Sh (k + 1) (.list ds) := ⟨by rw [PyData.canLay0]; exact (cl_all ds).mpr fun d m => (h d m).1, by rw [PyData.depth]; exact Nat.succ_le_succ ((dp_all ds).mpr fun d m => (h d m).2)⟩
theorem Sh.tup {k : Nat} {ds : List PyData} (h : ∀ d ∈ ds, Sh k d) : Sh (k + 1) (.tuple ds) := ⟨by rw [PyData.canLay0]; exact (cl_all ds).mpr fun d m => (h d m).1, by rw [PyData.depth]; exact Nat.succ_le_succ ((dp_all ds).mpr fun d m => (h d m).2)⟩
theorem Sh.int {k : Nat} {n : Int} : Sh k (.int n) := ⟨by simp [PyData.canLay0], by simp [PyData.depth]⟩
theorem Sh.non {k : Nat} : Sh k .none := ⟨by simp [PyData.canLay0], by simp [PyData.depth]⟩
theorem Sh.bl {k : Nat} {b : Bool} : Sh k (.bool b) := ⟨by simp [PyData.canLay0], by simp [PyData.depth]⟩
theorem Sh.str {k : Nat} {s : Str} (h : PyData.strOk s = true) : Sh k (.str s) := ⟨by rw [PyData.canLay0]; exact h, by simp [PyData.depth]⟩
theorem Sh.shaped {k : Nat} {d : PyData} (h : Sh k d) (hk : k ≤ 64) : SeqAt.shaped d = true := by
  unfold SeqAt.shaped
  rw [h.1, decide_eq_true (Nat.le_trans h.2 hk)]
  rfl
theorem Sh.refl {k : Nat} {d : PyData} (h : Sh k d) : PyData.eqv d d = true := SeqAt.eqv_refl d h.1
theorem x_eqD {d e : PyData} (h1 : Dp K H x d) (h2 : Dp K H y e) (s1 : Sh 9 d) (s2 : Sh 9 e) (q : Q (.bl (PyData.eqv d e)) H) : uEq K x y H Q := .inr ⟨d, e, h1, h2, s1.shaped (by decide), s2.shaped (by decide), q⟩
theorem x_neD {d e : PyData} (h1 : Dp K H x d) (h2 : Dp K H y e) (s1 : Sh 9 d) (s2 : Sh 9 e) (q : Q (.bl (!PyData.eqv d e)) H) : uNe K x y H Q := .inr ⟨d, e, h1, h2, s1.shaped (by decide), s2.shaped (by decide), q⟩
/-- the same data -/
theorem x_eqS2 {d : PyData} (h1 : Dp K H x d) (h2 : Dp K H y d) (s1 : Sh 9 d) (q : Q (.bl true) H) : uEq K x y H Q := x_eqD h1 h2 s1 s1 (by rw [s1.refl]; exact q)
theorem x_neS2 {d : PyData} (h1 : Dp K H x d) (h2 : Dp K H y d) (s1 : Sh 9 d) (q : Q (.bl false) H) : uNe K x y H Q := x_neD h1 h2 s1 s1 (by rw [s1.refl]; exact q)
theorem dpAll_of : ∀ {vs : List V} {ds : List PyData}, vs.length = ds.length → (∀ (i : Nat) v d, vs[i]? = some v → ds[i]? = some d → Dp K H v d) → DpAll K H vs ds
  | [], [], _, _ => .nil
  | v :: vs, d :: ds, hl, h => .cons (h 0 v d rfl rfl) (dpAll_of (by simpa using hl) fun i a b h1 h2 => h (i + 1) a b h1 h2)
theorem dpInts : ∀ {ns : List Int}, DpAll K H (ns.map V.int) (ns.map PyData.int)
  | [] => .nil
  | n :: ns => .cons (.int n) dpInts
end
/-! ### loops -/
section
variable {X : Cx} {σ : L2.St} {H : Hp} {K : PySem.W.Frag} {D : Ends} {g : TG} {tb : TS} {tl te : TE} {tt : TT} {ta : TA} {a : Addr} {xs : List V} {Q : VK} {vs : List Nat}
theorem sl_u : SlR X (rSlL X.K) := sl_list
theorem x_slice {to th : TO} {r : V → Option Int → Option Int → Hp → VK → Prop} (h : te σ H fun x H1 => to σ H1 fun l H2 => th σ H2 fun u H3 => r x l u H3 Q) : tSl r te to th σ H Q := h
theorem x_noPart {QO : Option Int → Hp → Prop} (q : QO none H) : tNoPart σ H QO := q
def ptK (QO : Option Int → Hp → Prop) : V → Hp → Prop := fun x H1 => ∃ i, x = .int i ∧ QO (some i) H1
theorem x_part {QO : Option Int → Hp → Prop} (h : te σ H (ptK QO)) : tPart te σ H QO := h
theorem x_ptK {QO : Option Int → Hp → Prop} {i : Int} (q : QO (some i) H) : ptK QO (.int i) H := ⟨i, rfl, q⟩
theorem x_slL {lo hi : Option Int} (h : SqL K H a xs) (q : New H Q (.lst (cutV xs lo hi))) : rSlL K (.ref a) lo hi H Q := ⟨a, xs, rfl, h, q.mk⟩
def loopK (J : It) (g : TG) (tb : TS) (D : Ends) (σ : L2.St) (H1 : Hp) : Prop := ∃ W : Nat → Nat → L2.St → Hp → Prop, (∃ m, W 0 m σ H1) ∧ ∀ i m σ H, W i m σ H →
  (J.stop i H ∧ D.nx σ H) ∨ (J.go i H ∧ ∃ N : L2.St → Hp → Prop, (∀ σ' H', N σ' H' → ∃ m', m' < m ∧ W (i + 1) m' σ' H') ∧ ∀ x H', J.yld i H x H' → g x σ H' fun σ2 H2 => tb { D with nx := N, ct := N, bk := D.nx } σ2 H2)
def frL (K : PySem.W.Frag) (g : TG) (tb : TS) (D : Ends) (σ : L2.St) : V → Hp → Prop := fun x H1 => ∃ a, x = .ref a ∧ (∃ xs, SqL K H1 a xs) ∧ loopK (Itl K a) g tb D σ H1
theorem x_forL (h : tl σ H (frL K g tb D σ)) : tFor (iList K tl) g tb D σ H := h
theorem x_frL (hq : SqL K H a xs) (Pv : Nat → L2.St → Hp → Prop) (h0 : Pv 0 σ H) (hl : ∀ i σ H, i ≤ xs.length → Pv i σ H → SqL K H a xs)
    (hs : ∀ i x σ H, xs[i]? = some x → Pv i σ H → g x σ H fun σ2 H2 => tb { D with nx := Pv (i + 1), ct := Pv (i + 1), bk := D.nx } σ2 H2) (hd : ∀ σ H, Pv xs.length σ H → D.nx σ H) : frL K g tb D σ (.ref a) H :=
  ⟨a, rfl, ⟨_, hq⟩, for_list Pv h0 hl hs hd⟩
def frT (K : PySem.W.Frag) (g : TG) (tb : TS) (D : Ends) (σ : L2.St) : V → Hp → Prop := fun x H1 => ∃ a, x = .ref a ∧ (∃ xs, SqT K H1 a xs) ∧ loopK (Itt K a) g tb D σ H1
theorem x_forT (h : tl σ H (frT K g tb D σ)) : tFor (iTup K tl) g tb D σ H := h
/-! a loop over a list or a tuple -/
def iSeq (K : PySem.W.Frag) (tl : TE) : TI := fun σ H R => tl σ H fun x H1 => ∃ a, x = .ref a ∧ (((∃ xs, SqL K H1 a xs) ∧ R (Itl K a) H1) ∨ ((∃ xs, SqT K H1 a xs) ∧ R (Itt K a) H1))
theorem pi_seq {X : Cx} {tg l : Expr} {tl : TE} (hl : PE X l tl) : PI X tg l (iSeq X.K tl) := by
  refine ⟨fun pins s σ H R I h => thn (hl.run pins s σ H _ I h) fun v s1 ⟨x, H1, I1, r1, a, e, q⟩ => ?_⟩
  subst e; cases r1
  have fp : ∀ b ∈ [s1.heap.objs.size], _ := fun b hb => (List.mem_singleton.mp hb) ▸ I1.fpOk (Nat.le_refl _) (I1.hok.fresh (Nat.le_refl _))
  rcases q with ⟨⟨xs, hq⟩, q⟩ | ⟨⟨xs, hq⟩, q⟩
  · obtain ⟨its, rv, p, hz⟩ := I1.list hq
    exact wpAny_pyIter_list p.isList ⟨s1.heap.objs.size, [s1.heap.objs.size], _, _, H1, rfl, I1.kept (t' := s1.toks) fun b o e => Heap.get?_push_of_some _ e, turn_list a _, ⟨_, Heap.get?_push_size _ rfl, rfl, rfl⟩, fp, q⟩
  · obtain ⟨its, rv, p, hz⟩ := I1.tuple hq
    exact wpAny_pyIter_tuple (show s1.heap.IsTuple a its.toArray from p) ⟨s1.heap.objs.size, [s1.heap.objs.size], _, _, H1, rfl, I1.kept (t' := s1.toks) fun b o e => Heap.get?_push_of_some _ e, turn_tuple a _, ⟨_, Heap.get?_push_size _ rfl, rfl, rfl⟩, fp, q⟩
def frS (K : PySem.W.Frag) (g : TG) (tb : TS) (D : Ends) (σ : L2.St) : V → Hp → Prop := fun x H1 => ∃ a, x = .ref a ∧ (((∃ xs, SqL K H1 a xs) ∧ loopK (Itl K a) g tb D σ H1) ∨ ((∃ xs, SqT K H1 a xs) ∧ loopK (Itt K a) g tb D σ H1))
theorem x_forS (h : tl σ H (frS K g tb D σ)) : tFor (iSeq K tl) g tb D σ H := h
/-- a list (k) or a tuple -/
def SqB (k : Bool) (K : PySem.W.Frag) (H : Hp) (a : Addr) (xs : List V) : Prop := if k = true then SqL K H a xs else SqT K H a xs
theorem sqB_of (h : H a = some (.lst xs) ∨ H a = some (.tup xs)) : ∃ k, ∀ H', Same H H' → SqB k K H' a xs := by
  rcases h with h | h
  · exact ⟨true, fun H' s => SqL.of (s _ _ h)⟩
  · exact ⟨false, fun H' s => SqT.of (s _ _ h)⟩
theorem x_frS {k : Bool} (hq : SqB k K H a xs) (Pv : Nat → L2.St → Hp → Prop) (h0 : Pv 0 σ H) (hl : ∀ i σ' H', i ≤ xs.length → Pv i σ' H' → SqB k K H' a xs)
    (hs : ∀ i x σ H, xs[i]? = some x → Pv i σ H → g x σ H fun σ2 H2 => tb { D with nx := Pv (i + 1), ct := Pv (i + 1), bk := D.nx } σ2 H2) (hd : ∀ σ H, Pv xs.length σ H → D.nx σ H) : frS K g tb D σ (.ref a) H := by
  cases k with
  | true => exact ⟨a, rfl, .inl ⟨⟨_, hq⟩, for_list Pv h0 hl hs hd⟩⟩
  | false => exact ⟨a, rfl, .inr ⟨⟨_, hq⟩, for_tup Pv h0 hl hs hd⟩⟩
def frR1 (g : TG) (tb : TS) (D : Ends) (σ : L2.St) : List V → Hp → Prop := fun vs H1 => ∃ j : Int, vs = [.int j] ∧ -(2 ^ 62) ≤ j ∧ j < 2 ^ 62 ∧ loopK (Itr 0 j.toNat) g tb D σ H1
theorem x_forR1 (h : ta σ H (frR1 g tb D σ)) : tFor (iRng1 ta) g tb D σ H := h
theorem x_frR1 {j : Int} (b : -(2 ^ 62) ≤ j ∧ j < 2 ^ 62) (Pv : Nat → L2.St → Hp → Prop) (h0 : Pv 0 σ H)
    (hs : ∀ i σ H, i < j.toNat → Pv i σ H → g (.int (0 + i)) σ H fun σ2 H2 => tb { D with nx := Pv (i + 1), ct := Pv (i + 1), bk := D.nx } σ2 H2) (hd : ∀ σ H, Pv j.toNat σ H → D.nx σ H) : frR1 g tb D σ [.int j] H :=
  ⟨j, rfl, b.1, b.2, for_range Pv h0 hs hd⟩
def frR2 (g : TG) (tb : TS) (D : Ends) (σ : L2.St) : List V → Hp → Prop := fun vs H1 => ∃ i j : Int, vs = [.int i, .int j] ∧ (-(2 ^ 62) ≤ i ∧ i < 2 ^ 62 ∧ -(2 ^ 62) ≤ j ∧ j < 2 ^ 62) ∧ loopK (Itr i (j - i).toNat) g tb D σ H1
theorem x_forR2 (h : ta σ H (frR2 g tb D σ)) : tFor (iRng2 ta) g tb D σ H := h
theorem x_frR2 {lo j : Int} (b : -(2 ^ 62) ≤ lo ∧ lo < 2 ^ 62 ∧ -(2 ^ 62) ≤ j ∧ j < 2 ^ 62) (Pv : Nat → L2.St → Hp → Prop) (h0 : Pv 0 σ H)
    (hs : ∀ i σ H, i < (j - lo).toNat → Pv i σ H → g (.int (lo + i)) σ H fun σ2 H2 => tb { D with nx := Pv (i + 1), ct := Pv (i + 1), bk := D.nx } σ2 H2) (hd : ∀ σ H, Pv (j - lo).toNat σ H → D.nx σ H) : frR2 g tb D σ [.int lo, .int j] H :=
  ⟨lo, j, rfl, b, for_range Pv h0 hs hd⟩
theorem x_gtup2 {i j : Nat} {QS : L2.St → Hp → Prop} {x y : V} (h : SqT K H a [x, y]) (q : QS ((σ.set i (some x)).set j (some y)) H) : gTup K 2 (gCons (gName i) (gCons (gName j) gNil)) (.ref a) σ H QS :=
  ⟨a, [x, y], rfl, h, rfl, x, [y], rfl, y, [], rfl, rfl, q⟩
theorem x_glst4 {i j k l : Nat} {QS : L2.St → Hp → Prop} {x y z u : V} (h : SqL K H a [x, y, z, u]) (q : QS ((((σ.set i (some x)).set j (some y)).set k (some z)).set l (some u)) H) : gLst K 4 (gCons (gName i) (gCons (gName j) (gCons (gName k) (gCons (gName l) gNil)))) (.ref a) σ H QS :=
  ⟨a, [x, y, z, u], rfl, h, rfl, x, [y, z, u], rfl, y, [z, u], rfl, z, [u], rfl, u, [], rfl, rfl, q⟩
def frEn (K : PySem.W.Frag) (g : TG) (tb : TS) (D : Ends) (σ : L2.St) : List V → Hp → Prop := fun vs H1 => ∃ a xs, vs = [.ref a] ∧ SqL K H1 a xs ∧ loopK (Ite K a) g tb D σ H1
theorem x_forEn (h : ta σ H (frEn K g tb D σ)) : tFor (iEnum K ta) g tb D σ H := h
def frZ (K : PySem.W.Frag) (g : TG) (tb : TS) (D : Ends) (σ : L2.St) : List V → Hp → Prop := fun vs H1 => ∃ a b xs ys, vs = [.ref a, .ref b] ∧ SqL K H1 a xs ∧ SqL K H1 b ys ∧ loopK (Itz K a b) g tb D σ H1
theorem x_forZ (h : ta σ H (frZ K g tb D σ)) : tFor (iZip K ta) g tb D σ H := h
theorem x_frZ {n1 n2 : Nat} {b : Addr} {ys : List V} (hq : SqL K H a xs) (hq2 : SqL K H b ys) (hxy : xs.length = ys.length) (Pv : Nat → L2.St → Hp → Prop) (h0 : Pv 0 σ H) (hl : ∀ i σ H, Pv i σ H → SqL K H a xs ∧ SqL K H b ys)
    (hs : ∀ i x y σ H H', xs[i]? = some x → ys[i]? = some y → Pv i σ H → Same H H' → tb { D with nx := Pv (i + 1), ct := Pv (i + 1), bk := D.nx } ((σ.set n1 (some x)).set n2 (some y)) H') (hd : ∀ σ H, Pv xs.length σ H → D.nx σ H) :
    frZ K (gTup K 2 (gCons (gName n1) (gCons (gName n2) gNil))) tb D σ [.ref a, .ref b] H := by
  refine ⟨a, b, xs, ys, rfl, hq, hq2, fun i m σ H => m = xs.length - i ∧ i ≤ xs.length ∧ Pv i σ H, ⟨xs.length, rfl, Nat.zero_le _, h0⟩, ?_⟩
  rintro i m σ H ⟨rfl, hi, p⟩
  obtain ⟨qx, qy⟩ := hl i σ H p
  by_cases hlt : i < xs.length
  · refine .inr ⟨⟨xs, ys, _, _, qx, qy, List.getElem?_eq_getElem hlt, List.getElem?_eq_getElem (by omega)⟩, Pv (i + 1), fun σ' H' p' => ⟨xs.length - (i + 1), by omega, rfl, hlt, p'⟩, fun v H' y => ?_⟩
    obtain ⟨T, x', y', rfl, hT, rfl, f1, f2⟩ := y
    exact x_gtup2 (SqT.of upd_same) (hs i x' y' σ H _ (f1 xs qx) (f2 ys qy) p (same_upd hT))
  · have e : i = xs.length := by omega
    subst e
    exact .inl ⟨⟨xs, ys, qx, qy, Or.inl (Nat.le_refl _)⟩, hd σ H p⟩
/-! comprehensions -/
/-- tuples stay -/
def TupS (H H' : Hp) : Prop := ∀ a xs, H a = some (.tup xs) → H' a = some (.tup xs)
theorem TupS.of {H H' : Hp} (h : Same H H') : TupS H H' := fun a xs e => h a _ e
theorem TupS.trans {H H1 H2 : Hp} (a : TupS H H1) (b : TupS H1 H2) : TupS H H2 := fun c o h => b c o (a c o h)
theorem TupS.upd {H : Hp} {p : Addr} {o o' : HO} (h : H p = some o) (ho : ∀ xs, o ≠ .tup xs) : TupS H (upd H p o') := fun a xs e => by
  rw [upd_ne (ne_of e h (fun z => ho xs z.symm))]; exact e
def lcK (J : It) (g : TG) (tt : TT) (te : TE) (vs : List Nat) (σ : L2.St) (Q : VK) (H1 : Hp) : Prop := ∀ D, H1 D = none → ∃ W : Nat → Nat → Hp → Prop, (∃ m, W 0 m (upd H1 D (.lst []))) ∧ ∀ i m H, W i m H →
  (J.stop i H ∧ Q (.ref D) H) ∨ (J.go i H ∧ ∃ Nx : Hp → Prop, (∀ H', Nx H' → ∃ m', m' < m ∧ W (i + 1) m' H') ∧ ∀ x H', J.yld i H x H' → g x (wipe σ vs) H' fun σ2 H2 => wipe σ2 vs = wipe σ vs ∧ tt σ2 H2 fun b H3 =>
    if b = true then te σ2 H3 fun y H4 => ∃ acc, H4 D = some (.lst acc) ∧ acc.length < sizeLine ∧ Nx (upd H4 D (.lst (acc ++ [y]))) else Nx H3)
def lcL (K : PySem.W.Frag) (g : TG) (tt : TT) (te : TE) (vs : List Nat) (σ : L2.St) (Q : VK) : V → Hp → Prop := fun x H1 => ∃ a, x = .ref a ∧ (∃ xs, SqL K H1 a xs) ∧ lcK (Itl K a) g tt te vs σ Q H1
theorem x_lcL (h : tl σ H (lcL K g tt te vs σ Q)) : tLc (iList K tl) g tt te vs σ H Q := h
/-- what a turn of a comprehension asks -/
def LcTurn (g : TG) (tt : TT) (te : TE) (vs : List Nat) (σ : L2.St) (A : Nat → List V → Hp → Prop) (i : Nat) (x : V) (acc : List V) (H' : Hp) : Prop :=
  ∀ (NY : VK) (NN : Hp → Prop), (∀ y H4, Same H' H4 → A (i + 1) (acc ++ [y]) H4 → NY y H4) → (∀ H3, Same H' H3 → A (i + 1) acc H3 → NN H3) →
    g x (wipe σ vs) H' fun σ2 H2 => wipe σ2 vs = wipe σ vs ∧ tt σ2 H2 fun b H3 => if b = true then te σ2 H3 NY else NN H3
theorem lc_gen {n : Nat} {J : It} (Y : Nat → V → Prop) (A : Nat → List V → Hp → Prop) (hA : ∀ i acc H H', TupS H H' → A i acc H → A i acc H') (hn : n < sizeLine) (h0 : A 0 [] H)
    (hJ : ∀ (Pv : Nat → Hp → Prop) (Dr : Addr), (∀ i H', Pv i H' → Same H H') → Pv 0 (upd H Dr (.lst [])) →
      (∀ i x H', Y i x → Pv i H' → g x (wipe σ vs) H' fun σ2 H2 => wipe σ2 vs = wipe σ vs ∧ tt σ2 H2 fun b H3 =>
        if b = true then te σ2 H3 fun y H4 => ∃ acc, H4 Dr = some (.lst acc) ∧ acc.length < sizeLine ∧ Pv (i + 1) (upd H4 Dr (.lst (acc ++ [y]))) else Pv (i + 1) H3) →
      (∀ H', Pv n H' → Q (.ref Dr) H') → ∃ W : Nat → Nat → Hp → Prop, (∃ m, W 0 m (upd H Dr (.lst []))) ∧ ∀ i m H, W i m H →
        (J.stop i H ∧ Q (.ref Dr) H) ∨ (J.go i H ∧ ∃ Nx : Hp → Prop, (∀ H', Nx H' → ∃ m', m' < m ∧ W (i + 1) m' H') ∧ ∀ x H', J.yld i H x H' → g x (wipe σ vs) H' fun σ2 H2 => wipe σ2 vs = wipe σ vs ∧ tt σ2 H2 fun b H3 =>
          if b = true then te σ2 H3 fun y H4 => ∃ acc, H4 Dr = some (.lst acc) ∧ acc.length < sizeLine ∧ Nx (upd H4 Dr (.lst (acc ++ [y]))) else Nx H3))
    (hs : ∀ i x acc H', Y i x → Same H H' → A i acc H' → LcTurn g tt te vs σ A i x acc H')
    (hY : ∀ i x, Y i x → i < n) (hd : ∀ p acc H', H p = none → Same H H' → H' p = some (.lst acc) → A n acc H' → Q (.ref p) H') : lcK J g tt te vs σ Q H := by
  intro Dr hD
  refine hJ (fun i H' => ∃ acc, H' Dr = some (.lst acc) ∧ acc.length ≤ i ∧ Same H H' ∧ A i acc H') Dr (fun i H' ⟨_, _, _, s, _⟩ => s) ⟨[], upd_same, Nat.le_refl _, same_upd hD, hA _ _ _ _ (TupS.of (same_upd hD)) h0⟩ ?_ ?_
  · rintro i x H' hy ⟨acc, h1, h2, h3, h4⟩
    have hi := hY i x hy
    refine hs i x acc H' hy h3 h4 _ _ (fun y H4 s4 a4 => ?_) (fun H3 s3 a3 => ⟨acc, s3 _ _ h1, Nat.le_succ_of_le h2, h3.trans s3, a3⟩)
    have e4 := s4 _ _ h1
    refine ⟨acc, e4, by omega, acc ++ [y], upd_same, by rw [List.length_append]; exact Nat.add_le_add h2 (Nat.le_refl _), fun b o e => ?_, hA _ _ _ _ (TupS.upd e4 (fun _ z => by cases z)) a4⟩
    rw [upd_ne (ne_of_none e hD)]
    exact s4 _ _ (h3 _ _ e)
  · rintro H' ⟨acc, h1, h2, h3, h4⟩
    exact hd Dr acc H' hD h3 h1 h4
theorem x_lcLK (hq : SqL K H a xs) (A : Nat → List V → Hp → Prop) (hA : ∀ i acc H H', TupS H H' → A i acc H → A i acc H') (hn : xs.length < sizeLine) (h0 : A 0 [] H)
    (hs : ∀ i x acc H', xs[i]? = some x → Same H H' → A i acc H' → LcTurn g tt te vs σ A i x acc H')
    (hd : ∀ p acc H', H p = none → Same H H' → H' p = some (.lst acc) → A xs.length acc H' → Q (.ref p) H') : lcL K g tt te vs σ Q (.ref a) H :=
  ⟨a, rfl, ⟨_, hq⟩, lc_gen (fun i x => xs[i]? = some x) A hA hn h0 (fun Pv Dr hP p0 ht hd => lc_list (K := K) (a := a) (xs := xs) Pv p0 (fun i H' _ p => (hP i H' p).seq hq) ht hd) hs (fun i x h => (List.getElem?_eq_some_iff.mp h).1) hd⟩
def lcR1 (g : TG) (tt : TT) (te : TE) (vs : List Nat) (σ : L2.St) (Q : VK) : List V → Hp → Prop := fun ws H1 => ∃ j : Int, ws = [.int j] ∧ -(2 ^ 62) ≤ j ∧ j < 2 ^ 62 ∧ lcK (Itr 0 j.toNat) g tt te vs σ Q H1
theorem x_lcR1 (h : ta σ H (lcR1 g tt te vs σ Q)) : tLc (iRng1 ta) g tt te vs σ H Q := h
theorem x_lcR1K {j : Int} (A : Nat → List V → Hp → Prop) (hA : ∀ i acc H H', TupS H H' → A i acc H → A i acc H') (hn : 0 ≤ j ∧ j < 1000000) (h0 : A 0 [] H)
    (hs : ∀ i acc H', i < j.toNat → Same H H' → A i acc H' → LcTurn g tt te vs σ A i (.int i) acc H')
    (hd : ∀ p acc H', H p = none → Same H H' → H' p = some (.lst acc) → A j.toNat acc H' → Q (.ref p) H') : lcR1 g tt te vs σ Q [.int j] H :=
  ⟨j, rfl, by omega, by omega, lc_gen (fun i x => i < j.toNat ∧ x = .int i) A hA (Nat.lt_of_lt_of_le (by omega : j.toNat < 1000000) (by decide)) h0
    (fun Pv Dr hP p0 ht hd => lc_range Pv p0 (fun i H' hi p => ht i _ H' ⟨hi, by rw [Int.zero_add]⟩ p) hd) (fun i x acc H' h s a => by rw [h.2]; exact hs i acc H' h.1 s a) (fun i x h => h.1) hd⟩
def lcR2 (g : TG) (tt : TT) (te : TE) (vs : List Nat) (σ : L2.St) (Q : VK) : List V → Hp → Prop := fun ws H1 => ∃ i j : Int, ws = [.int i, .int j] ∧ (-(2 ^ 62) ≤ i ∧ i < 2 ^ 62 ∧ -(2 ^ 62) ≤ j ∧ j < 2 ^ 62) ∧ lcK (Itr i (j - i).toNat) g tt te vs σ Q H1
theorem x_lcR2 (h : ta σ H (lcR2 g tt te vs σ Q)) : tLc (iRng2 ta) g tt te vs σ H Q := h
theorem x_yes {QB : Bool → Hp → Prop} (q : QB true H) : tYes σ H QB := q
/-! methods of built-in types -/
def bmK (K : PySem.W.Frag) (T : String) (r : V → List V → Hp → VK → Prop) (t : TA) (σ : L2.St) (Q : VK) : V → Hp → Prop := fun x H1 => tyV K T x H1 ∧ t σ H1 fun xs H2 => r x xs H2 Q
theorem x_bm {T : String} {r : V → List V → Hp → VK → Prop} {t : TA} (h : te σ H (bmK K T r t σ Q)) : tBM K T r te t σ H Q := h
theorem x_bmL {r : V → List V → Hp → VK → Prop} {t : TA} (hq : SqL K H a xs) (h : t σ H fun ws H2 => r (.ref a) ws H2 Q) : bmK K "list" r t σ Q (.ref a) H := ⟨.inl ⟨rfl, _, hq⟩, h⟩
def bm0K (K : PySem.W.Frag) (T : String) (r : V → List V → Hp → VK → Prop) (Q : VK) : V → Hp → Prop := fun x H1 => tyV K T x H1 ∧ r x [] H1 Q
theorem x_bm0 {T : String} {r : V → List V → Hp → VK → Prop} (h : te σ H (bm0K K T r Q)) : tBM0 K T r te σ H Q := h
theorem x_bm0L {r : V → List V → Hp → VK → Prop} (hq : SqL K H a xs) (h : r (.ref a) [] H Q) : bm0K K "list" r Q (.ref a) H := ⟨.inl ⟨rfl, _, hq⟩, h⟩
theorem x_append {y : V} (h : H a = some (.lst xs)) (q : Q .non (upd H a (.lst (xs ++ [y])))) (hl : xs.length < sizeLine) : rAppend (.ref a) [y] H Q := ⟨a, xs, y, rfl, rfl, h, hl, q⟩
theorem x_clear (h : H a = some (.lst xs)) (q : Q .non (upd H a (.lst []))) : rClear (.ref a) [] H Q := ⟨a, xs, rfl, rfl, h, q⟩
/-! objects -/
theorem x_mk0 {C : Addr} (h : ∀ x dx H1, H x = none → H dx = none → dx ≠ x → Same H H1 → H1 x = some (.ins C dx []) → H1 dx = some (.own x) → Q (.ref x) H1) : tMake0 C σ H Q := fun x dx n nd ne =>
  h x dx _ n nd ne ((same_upd nd).trans (same_upd (by rw [upd_ne (Ne.symm ne)]; exact n))) upd_same (by rw [upd_ne ne, upd_same])
def mkK (C : Addr) (sp : Sp) (dvs : List V) (Q : VK) (E : XK) : List V → Hp → Prop := fun vs H1 => ∀ x dx, H1 x = none → H1 dx = none → dx ≠ x →
  sp (.ref x :: (vs ++ dvs)) (upd (upd H1 dx (.own x)) x (.ins C dx [])) (fun v H2 => v = .non ∧ Q (.ref x) H2) E
theorem x_mkS {C : Addr} {sp : Sp} {dvs : List V} {E : L2.St → XK} {t : TA} (h : t σ H (mkK C sp dvs Q (E σ))) : tMakeS C sp dvs E t σ H Q := h
theorem x_mkK {C : Addr} {sp : Sp} {dvs ws : List V} {E : XK} (h : ∀ x dx H1, H x = none → H dx = none → dx ≠ x → Same H H1 → H1 x = some (.ins C dx []) → H1 dx = some (.own x) → sp (.ref x :: (ws ++ dvs)) H1 (fun v H2 => v = .non ∧ Q (.ref x) H2) E) :
    mkK C sp dvs Q E ws H := fun x dx n nd ne => h x dx _ n nd ne ((same_upd nd).trans (same_upd (by rw [upd_ne (Ne.symm ne)]; exact n))) upd_same (by rw [upd_ne ne, upd_same])
theorem x_methD {P : Program} {w : World} {mg : Str → Option Value} {base : Heap} {CX : CXT} {n : Nat} {m : Str} {E : L2.St → XK} {t : TA} (h : te σ H (mtK P w K mg base CX n m (E σ) σ t Q)) : tMethD P w K mg base CX n m E te t σ H Q := h
theorem x_mtK {P : Program} {w : World} {mg : Str → Option Value} {base : Heap} {CX : CXT} {n : Nat} {m : Str} {E : XK} {t : TA} {C dx : Addr} {fs : List (Str × V)} {sp : Sp} (ho : H a = some (.ins C dx fs)) (hm : MO P w K mg base CX n C m sp) (hl : fs.lookup m = none)
    (h : t σ H fun vs H2 => sp (.ref a :: vs) H2 Q E) : mtK P w K mg base CX n m E σ t Q (.ref a) H := ⟨a, C, dx, fs, sp, rfl, ho, hl, hm, h⟩
def fldK (K : PySem.W.Frag) (f : Str) (Q : VK) : V → Hp → Prop := fun x H1 => ∃ a C dx fs v, x = .ref a ∧ H1 a = some (.ins C dx fs) ∧ Cls K C ∧ NoAttr K C f ∧ fs.lookup f = some v ∧ Q v H1
theorem x_fld {f : Str} (h : te σ H (fldK K f Q)) : tFld K te f σ H Q := h
theorem x_fldK {f : Str} {C dx : Addr} {fs : List (Str × V)} {v : V} (ho : H a = some (.ins C dx fs)) (hl : fs.lookup f = some v) (q : Q v H) (hc : Cls K C) (hn : NoAttr K C f) : fldK K f Q (.ref a) H := ⟨a, C, dx, fs, v, rfl, ho, hc, hn, hl, q⟩
def sfK (K : PySem.W.Frag) (f : Str) (y : V) (D : Ends) (σ : L2.St) : V → Hp → Prop := fun x H2 => ∃ a C dx fs, x = .ref a ∧ H2 a = some (.ins C dx fs) ∧ Cls K C ∧ NoAttr K C f ∧ fs.length < 1000 ∧ D.nx σ (upd H2 a (.ins C dx (putF f y fs)))
theorem x_sfld {f : Str} (h : te σ H fun y H1 => tl σ H1 (sfK K f y D σ)) : sFld K tl te f D σ H := h
end
theorem _root_.L2.FunD.okX {P : Program} {w : World} {K : PySem.W.Frag} {mg : Str → Option Value} {base : Heap} {x qual : Str} {st : Stmt} {f : Addr} {fd : FuncData} {dvs : List V} {kws : List (Str × V)} {N ps : List Str} {k : Nat} {sp : Sp}
    (F : FunD K x qual (defArgs st) (defBody st) (defScope st) dvs kws f fd) (S : FnScope N ps (defScope st)) (len : ∀ vs H Q E, sp vs H Q E → vs.length = ps.length)
    (hbody : ∀ (cdv : Value) (A : Around) (outer : List Env) (s : Shared) (H : Hp) (vs : List V) (Q : VK) (E : XK), Room k (A.deeper (envOfC qual (defScope st) s.heap.objs.size f cdv)) → sp vs H Q E →
      ∃ t, PSs (cxOf (L2.CX P w) P w K mg base N qual (defScope st) f cdv A outer s H E) (defBody st) t ∧ t { nx := fun _ H' => Q .non H', rt := Q } (start N vs) H) : FnOk P w K mg base (L2.CX P w) (k + 1) f fd ps sp := F.ok S len hbody
/-! ### fields added to, while, is, in -/
section
variable {σ : L2.St} {H : Hp} {K : PySem.W.Frag} {D : Ends} {ta tv te : TE} {tb : TS} {tc : TT} {a : Addr} {Q : VK} {x y : V} {f : Str} {rd : V → V → Hp → VK → Prop}
/-- all but what stands at S stays -/
def Off (S : List Addr) (H H' : Hp) : Prop := ∀ b o, b ∉ S → H b = some o → H' b = some o
theorem Off.refl {S : List Addr} : Off S H H := fun _ _ _ h => h
theorem Off.of {S : List Addr} {H' : Hp} (s : Same H H') : Off S H H' := fun b o _ h => s b o h
theorem Off.trans {S : List Addr} {H1 H2 : Hp} (h1 : Off S H H1) (h2 : Off S H1 H2) : Off S H H2 := fun b o n h => h2 b o n (h1 b o n h)
theorem Off.sub {S S' : List Addr} {H' : Hp} (h : Off S H H') (hs : ∀ b, b ∈ S → b ∈ S') : Off S' H H' := fun b o n e => h b o (fun m => n (hs b m)) e
theorem Off.same {S : List Addr} {H1 H2 : Hp} (s : Same H H1) (h : Off S H1 H2) (n : ∀ b, b ∈ S → H b = none) : Same H H2 := fun b o e => h b o (fun m => by rw [n b m] at e; cases e) (s b o e)
theorem same_none {H' : Hp} {b : Addr} (s : Same H H') (h : H' b = none) : H b = none := by
  cases e : H b with
  | none => rfl
  | some o => rw [s _ _ e] at h; cases h
theorem Off.same1 {H1 H2 : Hp} (s : Same H H1) (h : Off [a] H1 H2) (n : H a = none) : Same H H2 := h.same s fun b hb => by rw [List.mem_singleton] at hb; rw [hb]; exact n
theorem Off.at {S : List Addr} {H1 : Hp} {b : Addr} {o : HO} (h : Off S H H1) (e : H b = some o) (n : b ∉ S) : H1 b = some o := h b o n e
theorem Off.upd {S : List Addr} {o : HO} (h : a ∈ S) : Off S H (upd H a o) := fun b u n e => by
  rw [upd_ne (fun z => n (by rw [z]; exact h))]; exact e
theorem Off.lst {r : Addr} {H H' : Hp} {C dx : Addr} {fs : List (Str × V)} {a : Addr} {xs : List V} (s : Off [r] H H') (hr : H r = some (.ins C dx fs)) (h : H a = some (.lst xs)) : H' a = some (.lst xs) := s a _ (fun m => by
  rw [List.mem_singleton] at m; subst m; rw [hr] at h; cases h) h
theorem Off.tup {r : Addr} {H H' : Hp} {C dx : Addr} {fs : List (Str × V)} {a : Addr} {xs : List V} (s : Off [r] H H') (hr : H r = some (.ins C dx fs)) (h : H a = some (.tup xs)) : H' a = some (.tup xs) := s a _ (fun m => by
  rw [List.mem_singleton] at m; subst m; rw [hr] at h; cases h) h
theorem Off.ins {r : Addr} {H H' : Hp} {a : Addr} {o : HO} (s : Off [r] H H') (hne : a ≠ r) (h : H a = some o) : H' a = some o := s a _ (fun m => hne (List.mem_singleton.mp m)) h
theorem Off.tups {r : Addr} {H H' : Hp} {C dx : Addr} {fs : List (Str × V)} (s : Off [r] H H') (hr : H r = some (.ins C dx fs)) : TupS H H' := fun a xs h => s.tup hr h
def f3K (a C : Addr) (f : Str) (D : Ends) (σ : L2.St) : VK := fun z H3 => ∃ dx' fs', H3 a = some (.ins C dx' fs') ∧ fs'.length < 1000 ∧ D.nx σ (upd H3 a (.ins C dx' (putF f z fs')))
def faK (K : PySem.W.Frag) (tv : TE) (rd : V → V → Hp → VK → Prop) (f : Str) (D : Ends) (σ : L2.St) : V → Hp → Prop := fun x H1 => ∃ a C dx fs v, x = .ref a ∧ H1 a = some (.ins C dx fs) ∧ Cls K C ∧ NoAttr K C f ∧ fs.lookup f = some v ∧
  tv σ H1 fun y H2 => rd v y H2 (f3K a C f D σ)
theorem x_fldAug (h : ta σ H (faK K tv rd f D σ)) : sFldAug K ta tv rd f D σ H := h
theorem x_faK {C dx : Addr} {fs : List (Str × V)} {v : V} (ho : H a = some (.ins C dx fs)) (hl : fs.lookup f = some v) (q : tv σ H fun y H2 => rd v y H2 (f3K a C f D σ)) (hc : Cls K C) (hn : NoAttr K C f) : faK K tv rd f D σ (.ref a) H := ⟨a, C, dx, fs, v, rfl, ho, hc, hn, hl, q⟩
theorem putF_new {f : Str} {y : V} : ∀ {fs : List (Str × V)}, fs.lookup f = none → putF f y fs = fs ++ [(f, y)]
  | [], _ => rfl
  | (g, x) :: r, h => by
    rw [List.lookup_cons] at h
    by_cases e : f = g
    · subst e; simp at h
    · rw [show (f == g) = false from beq_eq_false_iff_ne.mpr e] at h
      show (if g = f then _ else _) = _
      rw [if_neg (Ne.symm e), putF_new h]
      rfl
/-- self.f = y, f new -/
theorem x_sfN {C dx : Addr} {fs : List (Str × V)} (ho : H a = some (.ins C dx fs)) (hf : fs.lookup f = none) (q : ∀ H1, Off [a] H H1 → H1 a = some (.ins C dx (fs ++ [(f, y)])) → D.nx σ H1) (hc : Cls K C) (hn : NoAttr K C f) (hl : fs.length < 1000) : sfK K f y D σ (.ref a) H :=
  ⟨a, C, dx, fs, rfl, ho, hc, hn, hl, by rw [putF_new hf]; exact q _ (Off.upd (List.mem_singleton.mpr rfl)) upd_same⟩
/-- self.f = y, f there -/
theorem x_sfO {C dx : Addr} {fs fs' : List (Str × V)} (ho : H a = some (.ins C dx fs)) (hf : putF f y fs = fs') (q : ∀ H1, Off [a] H H1 → H1 a = some (.ins C dx fs') → D.nx σ H1) (hc : Cls K C) (hn : NoAttr K C f) (hl : fs.length < 1000) : sfK K f y D σ (.ref a) H :=
  ⟨a, C, dx, fs, rfl, ho, hc, hn, hl, by rw [hf]; exact q _ (Off.upd (List.mem_singleton.mpr rfl)) upd_same⟩
theorem x_gsub {to ti : TE} {t : TSet} {v : V} {QS : L2.St → Hp → Prop} (h : to σ H fun o H1 => ti σ H1 fun i H2 => t o i v H2 fun H3 => QS σ H3) : gSub to ti t v σ H QS := h
theorem x_setL {xs : List V} {k : Int} {v : V} {QS : Hp → Prop} (hp : H a = some (.lst xs)) (q : ∀ H1, Off [a] H H1 → H1 a = some (.lst (xs.set k.toNat v)) → QS H1) (h0 : 0 ≤ k) (h1 : k < xs.length) : rSetL (.ref a) (.int k) v H QS :=
  ⟨a, xs, k, k.toNat, rfl, rfl, hp, by unfold ixN; rw [if_pos h0, if_pos h1], q _ (Off.upd (List.mem_singleton.mpr rfl)) upd_same⟩
/-- xs[i] of an augmented store -/
def rGetL (K : PySem.W.Frag) : V → V → Hp → VK → Prop := fun o i H Q => ∃ p xs k v, o = .ref p ∧ i = .int k ∧ SqL K H p xs ∧ 0 ≤ k ∧ xs[k.toNat]? = some v ∧ Q v H
theorem get_list {X : Cx} : PGet X (rGetL X.K) := by
  intro pins s σ H o i ov iv Q I ro ri h
  obtain ⟨p, xs, k, v, rfl, rfl, hq, h0, he, q⟩ := h
  cases ro
  obtain ⟨t, rfl⟩ := ri
  obtain ⟨its, r, pl, hz⟩ := I.list hq
  obtain ⟨w, ew, rw'⟩ := r.get he
  have hl := r.length
  have hn := line63
  have hlt := (List.getElem?_eq_some_iff.mp he).1
  exact wpAny_getItem_list pl.isList h0 (by omega) (by simpa using ew) ⟨v, H, I, rw', q⟩
theorem x_augS {to ti te : TE} {tget : V → V → Hp → VK → Prop} {tip : TIp} {tset : TSet} (h : to σ H fun o H1 => ti σ H1 fun i H2 => tget o i H2 fun x H3 => te σ H3 fun y H4 => tip x y H4 fun z H5 => tset o i z H5 fun H6 => D.nx σ H6) : tAugS to ti te tget tip tset D σ H := h
theorem x_seqAS {to ti te : TE} {tget : V → V → Hp → VK → Prop} {tip : TIp} {tset : TSet} {u : TS} (h : tAugS to ti te tget tip tset { D with nx := u D } σ H) : tSeq (tAugS to ti te tget tip tset) u D σ H := h
theorem x_getL {xs : List V} {k : Int} (h : SqL K H a xs) (q : Q (xs.getD k.toNat .non) H) (h0 : 0 ≤ k) (h1 : k < xs.length) : rGetL K (.ref a) (.int k) H Q := ⟨a, xs, k, _, rfl, rfl, h, h0, by
  have hn : k.toNat < xs.length := by omega
  simp [hn], q⟩
theorem x_getI {ns : List Int} {k : Int} (h : SqL K H a (ns.map V.int)) (q : Q (.int (ns.getD k.toNat 0)) H) (h0 : 0 ≤ k) (h1 : k < ns.length) : rGetL K (.ref a) (.int k) H Q := ⟨a, _, k, _, rfl, rfl, h, h0, by
  have hn : k.toNat < ns.length := by omega
  simp [hn], q⟩
theorem x_rSub {m n : Int} (q : Q (.int (m - n)) H) : rSub (.int m) (.int n) H Q := ⟨m, n, rfl, rfl, q⟩
/-- == and != of scalars of any kinds -/
theorem x_eqSc (h : scal x y = true) (q : Q (.bl (decide (x = y))) H) : uEq K x y H Q := .inl ⟨h, q⟩
theorem x_neSc (h : scal x y = true) (q : Q (.bl (!decide (x = y))) H) : uNe K x y H Q := .inl ⟨h, q⟩
/-- xs[i] by values that are named otherwise -/
theorem x_ixF {α : Type} {l : List α} {g : α → V} {k : Int} (d : α) (h : SqL K H a (l.map g)) (q : Q (g (l.getD k.toNat d)) H) (h0 : 0 ≤ k) (h1 : k < l.length) : rIx K (.ref a) (.int k) H Q := by
  have hn : k.toNat < l.length := by omega
  refine x_ixL h ?_ h0 (by rw [List.length_map]; exact h1)
  rw [show (l.map g).getD k.toNat .non = g (l.getD k.toNat d) by simp [hn]]
  exact q
theorem x_f3O {C dx : Addr} {fs fs' : List (Str × V)} {z : V} (ho : H a = some (.ins C dx fs)) (hf : putF f z fs = fs') (q : ∀ H1, Off [a] H H1 → H1 a = some (.ins C dx fs') → D.nx σ H1) (hl : fs.length < 1000) : f3K a C f D σ z H := ⟨dx, fs, ho, hl, by rw [hf]; exact q _ (Off.upd (List.mem_singleton.mpr rfl)) upd_same⟩
theorem nin_of {b : Addr} (h : b ≠ a) : b ∉ [a] := fun z => h (List.mem_singleton.mp z)
theorem x_appO {xs : List V} (h : H a = some (.lst xs)) (q : ∀ H1, Off [a] H H1 → H1 a = some (.lst (xs ++ [y])) → Q .non H1) (hl : xs.length < sizeLine) : rAppend (.ref a) [y] H Q := ⟨a, xs, y, rfl, rfl, h, hl, q _ (Off.upd (List.mem_singleton.mpr rfl)) upd_same⟩
theorem str_len {n : Int} (h0 : 0 ≤ n) (h1 : n < 300) : (Str.ofString (toString n)).length ≤ 20 := by
  have k : ∀ m : Nat, m < 300 → (Str.ofString (toString (m : Int))).length ≤ 20 := by decide +kernel
  have := k n.toNat (by omega)
  rwa [show ((n.toNat : Nat) : Int) = n by omega] at this
theorem small_log {n : Int} (h0 : 0 ≤ n) (h1 : n < 1000000) : n.natAbs.log2 < 1920 := by
  by_cases e : n.natAbs = 0
  · rw [e]; decide
  · exact (Nat.log2_lt e).mpr (Nat.lt_of_lt_of_le (show n.natAbs < 2 ^ 20 by omega) (Nat.pow_le_pow_right (by decide) (by decide)))
theorem x_ixB {bs : List Bool} {k : Int} (h : SqL K H a (bs.map V.bl)) (q : Q (.bl (bs.getD k.toNat false)) H) (h0 : 0 ≤ k) (h1 : k < bs.length) : rIx K (.ref a) (.int k) H Q := x_ixF false h q h0 h1
theorem off_none {r b : Addr} {H1 : Hp} (h : Off [r] H H1) (n : H1 b = none) (hne : b ≠ r) : H b = none := by
  cases e : H b with
  | none => rfl
  | some o => rw [h.at e (nin_of hne)] at n; cases n
theorem line_len {n : Nat} (h : n ≤ 1000) : n ≤ sizeLine := Nat.le_trans h (by decide)
theorem x_rAdd {m n : Int} (q : Q (.int (m + n)) H) : rAdd (.int m) (.int n) H Q := ⟨m, n, rfl, rfl, q⟩
theorem x_aug {i : Nat} {ti : TIp} (h : σ[i]? = some (some x)) (q : te σ H fun y H1 => ti x y H1 fun z H2 => D.nx (σ.set i (some z)) H2) : tAug i te ti D σ H := ⟨x, h, q⟩
theorem x_ipI {g : Int → Int → Int} {m n : Int} (q : Q (.int (g m n)) H) : ipI g (.int m) (.int n) H Q := ⟨m, n, rfl, rfl, q⟩
def whK (W : Nat → L2.St → Hp → Prop) (tb : TS) (D : Ends) (m : Nat) (σ : L2.St) : Bool → Hp → Prop := fun b H1 => if b = true then ∃ N : L2.St → Hp → Prop, (∀ σ' H', N σ' H' → ∃ m', m' < m ∧ W m' σ' H') ∧ tb { D with nx := N, ct := N, bk := D.nx } σ H1 else D.nx σ H1
theorem x_whl (W : Nat → L2.St → Hp → Prop) (m : Nat) (h0 : W m σ H) (hs : ∀ m σ H, W m σ H → tc σ H (whK W tb D m σ)) : tWhile tc tb D σ H := ⟨W, ⟨m, h0⟩, hs⟩
theorem x_isN (q : Q (.bl (decide (x = .non))) H) : uIs x .non H Q := .inl ⟨rfl, q⟩
theorem x_isNotN (q : Q (.bl (!decide (x = .non))) H) : uIsNot x .non H Q := .inl ⟨rfl, q⟩
theorem x_isB {b c : Bool} (q : Q (.bl (decide (b = c))) H) : uIs (.bl b) (.bl c) H Q := .inr ⟨b, c, rfl, rfl, q⟩
theorem x_isNotB {b c : Bool} (q : Q (.bl (!decide (b = c))) H) : uIsNot (.bl b) (.bl c) H Q := .inr ⟨b, c, rfl, rfl, q⟩
theorem inV_int (n : Int) (ns : List Int) : inV (.int n) (ns.map V.int) = decide (n ∈ ns) := by
  unfold inV
  induction ns with
  | nil => rfl
  | cons m ns ih =>
    rw [List.map_cons, List.any_cons, ih]
    have e : eqV (.int m) (.int n) = decide (n = m) := by
      show (m == n) = _
      rw [Bool.eq_iff_iff, beq_iff_eq, decide_eq_true_iff]
      exact ⟨Eq.symm, Eq.symm⟩
    rw [e, ← Bool.decide_or, decide_eq_decide, List.mem_cons]
theorem flat_ints (ns : List Int) : (ns.map V.int).all flatV = true := by
  rw [List.all_eq_true]
  intro x h
  obtain ⟨n, _, rfl⟩ := List.mem_map.mp h
  rfl
theorem x_inI {n : Int} {ns : List Int} (h : SqL K H a (ns.map V.int)) (q : Q (.bl (decide (n ∈ ns))) H) : uIn K (.int n) (.ref a) H Q := ⟨a, _, rfl, .inl h, rfl, flat_ints ns, by rw [inV_int] <;> exact q⟩
theorem x_notInI {n : Int} {ns : List Int} (h : SqL K H a (ns.map V.int)) (q : Q (.bl (!decide (n ∈ ns))) H) : uNotIn K (.int n) (.ref a) H Q := ⟨a, _, rfl, .inl h, rfl, flat_ints ns, by rw [inV_int] <;> exact q⟩
end
/-! ### dicts of text keys -/
section
variable {σ : L2.St} {H : Hp} {K : PySem.W.Frag} {D : Ends} {td ty tv : TE} {a : Addr} {Q : VK} {x v : V} {z : Str} {kvs kvs' : List (L2.Key × V)}
def dgK (x : V) (Q : VK) : V → Hp → Prop := fun y H2 => ∃ a v, x = .ref a ∧ DGet H2 a y (some v) ∧ Q v H2
theorem x_dget (h : td σ H fun x H1 => ty σ H1 (dgK x Q)) : tDGet td ty σ H Q := h
theorem x_dgS (h : H a = some (.dK kvs)) (hv : valV kvs (.inr z) = some v) (q : Q v H) : dgK (.ref a) Q (.str z) H := ⟨a, v, rfl, by rw [← hv]; exact DGet.k (k := .inr z) h, q⟩
def dpK (x v : V) (D : Ends) (σ : L2.St) : V → Hp → Prop := fun y H3 => ∃ a H4, x = .ref a ∧ DPut H3 a y v H4 ∧ D.nx σ H4
theorem x_dput (h : tv σ H fun v H1 => td σ H1 fun x H2 => ty σ H2 (dpK x v D σ)) : sDPut td ty tv D σ H := h
theorem x_seqDP {u : TS} (h : sDPut td ty tv { D with nx := u D } σ H) : tSeq (sDPut td ty tv) u D σ H := h
theorem x_dpI {n : Int} (h : H a = some (.dK kvs)) (hk : putK kvs (.inl n) v = kvs') (q : ∀ H1, Off [a] H H1 → H1 a = some (.dK kvs') → D.nx σ H1) (hl : kvs.length ≤ 1000) : dpK (.ref a) v D σ (.int n) H :=
  ⟨a, _, rfl, DPut.k (k := .inl n) h (Nat.lt_of_le_of_lt hl (by decide)), by rw [hk]; exact q _ (Off.upd (List.mem_singleton.mpr rfl)) upd_same⟩
/-- {k: v, ..} -/
def dspK (p : Addr) (Q : VK) : List (V × V) → Hp → Prop := fun ps H2 => H2 p = some (.dK []) ∧ ∃ kvs : List (L2.Key × V), ps = kvs.map (fun kv => (kV kv.1, kv.2)) ∧ kvs.length ≤ 15 ∧ Q (.ref p) (upd H2 p (.dK (mergeK [] kvs)))
theorem x_disp {trs : List (TE × TE)} (h : ∀ p H1, H p = none → Same H H1 → H1 p = some (.dK []) → tPairs trs σ H1 (dspK p Q)) : tDisp trs σ H Q := fun p hp => h p _ hp (same_upd hp) upd_same
theorem x_prN {QP : List (V × V) → Hp → Prop} (q : QP [] H) : tPairs [] σ H QP := q
theorem x_prC {tk tv : TE} {r : List (TE × TE)} {QP : List (V × V) → Hp → Prop} (q : tk σ H fun x H1 => tv σ H1 fun y H2 => tPairs r σ H2 fun ps H3 => QP ((x, y) :: ps) H3) : tPairs ((tk, tv) :: r) σ H QP := q
theorem x_dnew (h : ∀ p H1, H p = none → Same H H1 → H1 p = some (.dK []) → Q (.ref p) H1) : tDNewK σ H Q := fun p hp => h p _ hp (same_upd hp) upd_same
/-! k in d, d.get(k), d.get(k, x), d.setdefault(k, x), d.pop(k), d.pop(k, x) -/
def dinK (y : V) (Q : VK) : V → Hp → Prop := fun x H2 => ∃ a o, x = .ref a ∧ DGet H2 a y o ∧ Q (.bl o.isSome) H2
theorem x_din (h : ty σ H fun y H1 => td σ H1 (dinK y Q)) : tDIn ty td σ H Q := h
def dninK (y : V) (Q : VK) : V → Hp → Prop := fun x H2 => ∃ a o, x = .ref a ∧ DGet H2 a y o ∧ Q (.bl (!o.isSome)) H2
theorem x_dnin (h : ty σ H fun y H1 => td σ H1 (dninK y Q)) : tDNotIn ty td σ H Q := h
theorem x_dninI {n : Int} (h : H a = some (.dK kvs)) (q : Q (.bl (!(valV kvs (.inl n)).isSome)) H) : dninK (.int n) Q (.ref a) H := ⟨a, _, rfl, DGet.k (k := .inl n) h, q⟩
theorem x_dinI {n : Int} (h : H a = some (.dK kvs)) (q : Q (.bl (valV kvs (.inl n)).isSome) H) : dinK (.int n) Q (.ref a) H := ⟨a, _, rfl, DGet.k (k := .inl n) h, q⟩
def dg1E (a : Addr) (Q : VK) : V → Hp → Prop := fun y H2 => ∃ o, DGet H2 a y o ∧ Q (o.getD .non) H2
def dg1K (ty : TE) (Q : VK) (σ : L2.St) : V → Hp → Prop := fun x H1 => ∃ a, x = .ref a ∧ IsD H1 a ∧ ty σ H1 (dg1E a Q)
theorem x_dget1 (h : td σ H (dg1K ty Q σ)) : tDGet1 td ty σ H Q := h
theorem x_dg1K (h : H a = some (.dK kvs)) (q : ty σ H (dg1E a Q)) : dg1K ty Q σ (.ref a) H := ⟨a, rfl, .inl ⟨kvs, .inl h⟩, q⟩
theorem x_dg1I {n : Int} (h : H a = some (.dK kvs)) (q : Q ((valV kvs (.inl n)).getD .non) H) : dg1E a Q (.int n) H := ⟨_, DGet.k (k := .inl n) h, q⟩
def dsE (a : Addr) (Q : VK) (y : V) : V → Hp → Prop := fun z H3 => ∃ (kvs : List (L2.Key × V)) (k : L2.Key), H3 a = some (.dK kvs) ∧ y = kV k ∧ kvs.length < sizeLine ∧ (∀ v, valV kvs k = some v → Q v H3) ∧ (valV kvs k = none → Q z (L2.upd H3 a (.dK (putK kvs k z))))
def dsK (ty tx : TE) (Q : VK) (σ : L2.St) : V → Hp → Prop := fun x H1 => ∃ a, x = .ref a ∧ IsD H1 a ∧ ty σ H1 fun y H2 => tx σ H2 (dsE a Q y)
theorem x_dsetd {tx : TE} (h : td σ H (dsK ty tx Q σ)) : tDSetd td ty tx σ H Q := h
theorem x_dsK {tx : TE} (h : H a = some (.dK kvs)) (q : ty σ H fun y H2 => tx σ H2 (dsE a Q y)) : dsK ty tx Q σ (.ref a) H := ⟨a, rfl, .inl ⟨kvs, .inl h⟩, q⟩
def dpp1E (a : Addr) (Q : VK) : V → Hp → Prop := fun y H2 => ∃ kvs k v, H2 a = some (.dK kvs) ∧ y = kV k ∧ valV kvs k = some v ∧ Q v (L2.upd H2 a (.dK (dropK kvs k)))
def dpp1K (ty : TE) (Q : VK) (σ : L2.St) : V → Hp → Prop := fun x H1 => ∃ a, x = .ref a ∧ IsD H1 a ∧ ty σ H1 (dpp1E a Q)
theorem x_dpop1 (h : td σ H (dpp1K ty Q σ)) : tDPop1 td ty σ H Q := h
theorem x_dpp1K (h : H a = some (.dK kvs)) (q : ty σ H (dpp1E a Q)) : dpp1K ty Q σ (.ref a) H := ⟨a, rfl, .inl ⟨kvs, .inl h⟩, q⟩
theorem x_dpp1I {n : Int} (h : H a = some (.dK kvs)) (hv : valV kvs (.inl n) = some v) (q : ∀ H1, Off [a] H H1 → H1 a = some (.dK (dropK kvs (.inl n))) → Q v H1) : dpp1E a Q (.int n) H := ⟨kvs, .inl n, v, h, rfl, hv, q _ (Off.upd (List.mem_singleton.mpr rfl)) upd_same⟩
def dpp2E (a : Addr) (Q : VK) (y : V) : V → Hp → Prop := fun z H3 => ∃ kvs k, H3 a = some (.dK kvs) ∧ y = kV k ∧ (∀ v, valV kvs k = some v → Q v (L2.upd H3 a (.dK (dropK kvs k)))) ∧ (valV kvs k = none → Q z H3)
def dpp2K (ty tx : TE) (Q : VK) (σ : L2.St) : V → Hp → Prop := fun x H1 => ∃ a, x = .ref a ∧ IsD H1 a ∧ ty σ H1 fun y H2 => tx σ H2 (dpp2E a Q y)
theorem x_dpop2 {tx : TE} (h : td σ H (dpp2K ty tx Q σ)) : tDPop2 td ty tx σ H Q := h
theorem x_dpp2K {tx : TE} (h : H a = some (.dK kvs)) (q : ty σ H fun y H2 => tx σ H2 (dpp2E a Q y)) : dpp2K ty tx Q σ (.ref a) H := ⟨a, rfl, .inl ⟨kvs, .inl h⟩, q⟩
end
/-! ### exceptions -/
section
variable {X : Cx} {K : PySem.W.Frag} {W Wout : WX} {D : Ends} {σ : L2.St} {H : Hp} {cls c : Value} {d : Option Addr} {a C fI : Addr} {Q : VK}
/-- an exception class without an own __init__ -/
structure XC (K : PySem.W.Frag) (C : Addr) : Prop where
  q : PySem.W.excIn K C [.type "ValueError", .type "Exception", .type "BaseException", .type "object"] "ValueError.__new__" = true
  k : PySem.W.keepIn K (.ref C) = true
  r : PySem.W.subIn K (.ref C) (.type "BaseException") = some true
  t : PySem.W.typeIn K (.ref C) = some (.type "type")
/-- one with an own __init__ -/
structure XI (K : PySem.W.Frag) (C fI : Addr) : Prop where
  o : OexC K C
  i : PySem.W.findIn K (.ref C) "__init__" = some (some (.ref fI))
  t : PySem.W.typeIn K (.ref fI) = some (.type "function")
  f : XfC K C
def tRaise (t : L2.St → Hp → XK → Prop) (W : WX) : TS := fun _ σ H => t σ H fun cls d H' => W cls d σ H'
theorem ps_raiseK {e : Expr} {t : L2.St → Hp → XK → Prop} {pos : Pos} (hc : X.calm = true) (tk : Takes X W) (he : PMk X e t) : PS X (.Raise (some e) none pos) (tRaise t W) := ps_raise hc tk he
def tMkE (C : Addr) : L2.St → Hp → XK → Prop := fun _ H Q => Q (.ref C) none H
theorem pmk_ownK {x m : Str} {j : Nat} {p p2 pos : Pos} (T : XC X.K C) (gC : X.mg x = some (.ref C)) (hg : Gl X x) (hdb : (x == ("__debug__" : Str)) = false := by decide) : PMk X (.Call (.Name x p) [.Constant (.str m) j p2] [] pos) (tMkE C) :=
  pmk_own PySem.F.excBase_ValueError T.q gC T.k (raises_own T.r T.t) hg hdb
theorem x_raise {t : L2.St → Hp → XK → Prop} (h : t σ H fun cls d H' => W cls d σ H') : tRaise t W D σ H := h
theorem x_seqR {t : L2.St → Hp → XK → Prop} {u : TS} (h : tRaise t W { D with nx := u D } σ H) : tSeq (tRaise t W) u D σ H := h
theorem x_mkE {Q : XK} (q : Q (.ref C) none H) : tMkE C σ H Q := q
def tTry1 (K : PySem.W.Frag) (c : Value) (tb : WX → TS) (ts : Addr → Value → Option Addr → TS) (Wout : WX) : TS := fun D σ H => tb (wOnly K c ts Wout D) D σ H
theorem x_try1 {tb : WX → TS} {ts : Addr → Value → Option Addr → TS} (h : tb (wOnly K c ts Wout D) D σ H) : tTry1 K c tb ts Wout D σ H := h
theorem x_seqT1 {tb : WX → TS} {ts : Addr → Value → Option Addr → TS} {u : TS} (h : tTry1 K c tb ts Wout { D with nx := u D } σ H) : tSeq (tTry1 K c tb ts Wout) u D σ H := h
theorem ps_try1 {x : Str} {body suite : List Stmt} {b₀ : Stmt} {np pos pos' : Pos} {tb : WX → TS} {ts : Addr → Value → Option Addr → TS} (hs : X.stack = X.env :: X.outer) (hf : X.env.frame = some X.env.locals) (hc : Names X x c) (tk : Takes X Wout)
    (hb : ∀ (W : WX) (pn : List (Addr × Obj)) (xe : Value → Shared → Prop), Takes (X.tr pn xe) W → PassesOwn (model X.prog X.w) X.A X.env xe → PSs (X.tr pn xe) body (tb W))
    (hsu : ∀ (a : Addr) (oe : Obj) (cls : Value) (d : Option Addr) (pn : List (Addr × Obj)), Zc cls d oe → (∃ vs, oe.data = .fields vs) → PSs (X.suite a ((a, oe) :: pn)) (b₀ :: suite) (ts a cls d)) :
    PS X (.Try body [.ExceptHandler (some (.Name x np)) none (b₀ :: suite) pos'] [] [] pos) (tTry1 X.K c tb ts Wout) := ps_try_only hs hf hc tk hb hsu
theorem x_onlyT {ts : Addr → Value → Option Addr → TS} (hx : PySem.W.exmOne K cls c = some true) (q : ∀ a, H a = none → ts a cls d D σ H) : wOnly K c ts Wout D cls d σ H := ⟨true, hx, fun _ => q, fun z => nomatch z⟩
def tTryA (K : PySem.W.Frag) (c : Value) (i : Nat) (tb : WX → TS) (ts : Addr → Value → Option Addr → TS) (Wout : WX) : TS := fun D σ H => tb (wAs K c i ts Wout D) D σ H
theorem x_tryA {i : Nat} {tb : WX → TS} {ts : Addr → Value → Option Addr → TS} (h : tb (wAs K c i ts Wout D) D σ H) : tTryA K c i tb ts Wout D σ H := h
theorem x_seqTA {i : Nat} {tb : WX → TS} {ts : Addr → Value → Option Addr → TS} {u : TS} (h : tTryA K c i tb ts Wout { D with nx := u D } σ H) : tSeq (tTryA K c i tb ts Wout) u D σ H := h
theorem ps_tryA {x n : Str} {i : Nat} {body suite : List Stmt} {b₀ : Stmt} {np pos pos' : Pos} {tb : WX → TS} {ts : Addr → Value → Option Addr → TS} (hs : X.stack = X.env :: X.outer) (hf : X.env.frame = some X.env.locals) (hN : X.N.Nodup) (hi : X.N[i]? = some n) (hln : X.env.kindOf n = some .local) (hc : Names X x c) (tk : Takes X Wout)
    (hb : ∀ (W : WX) (pn : List (Addr × Obj)) (xe : Value → Shared → Prop), Takes (X.tr pn xe) W → PassesOwn (model X.prog X.w) X.A X.env xe → PSs (X.tr pn xe) body (tb W))
    (hsu : ∀ (a : Addr) (oe : Obj) (cls : Value) (d : Option Addr) (pn : List (Addr × Obj)), Zc cls d oe → (∃ vs, oe.data = .fields vs) → PSs (X.suite a ((a, oe) :: pn)) (b₀ :: suite) (ts a cls d)) :
    PS X (.Try body [.ExceptHandler (some (.Name x np)) (some n) (b₀ :: suite) pos'] [] [] pos) (tTryA X.K c i tb ts Wout) := ps_try_as hs hf hN hi hln hc tk hb hsu
theorem x_asT {i : Nat} {ts : Addr → Value → Option Addr → TS} (hx : PySem.W.exmOne K cls c = some true)
    (q : ∀ a, H a = none → ts a cls d { nx := fun σ' H' => D.nx (σ'.set i none) H', rt := D.rt, bk := fun σ' H' => D.bk (σ'.set i none) H', ct := fun σ' H' => D.ct (σ'.set i none) H' } (σ.set i (some (.ref a))) H) : wAs K c i ts Wout D cls d σ H := ⟨true, hx, fun _ => q, fun z => nomatch z⟩
/-! several except clauses -/
def tTryM (K : PySem.W.Frag) (l : List (Value × (Addr → Value → Option Addr → TS))) (tb : WX → TS) (Wout : WX) : TS := fun D σ H => tb (wMany K Wout D l) D σ H
theorem x_tryM {l : List (Value × (Addr → Value → Option Addr → TS))} {tb : WX → TS} (h : tb (wMany K Wout D l) D σ H) : tTryM K l tb Wout D σ H := h
theorem x_seqTM {l : List (Value × (Addr → Value → Option Addr → TS))} {tb : WX → TS} {u : TS} (h : tTryM K l tb Wout { D with nx := u D } σ H) : tSeq (tTryM K l tb Wout) u D σ H := h
/-- e.f of a caught exception -/
def xfK (a : Addr) (cls : Value) (d : Option Addr) (C : Addr) (f : Str) (Q : VK) : V → Hp → Prop := fun x H1 => x = .ref a ∧ cls = .ref C ∧ ∃ (dd : Addr) (fs : List (Str × V)) (v : V), d = some dd ∧ H1 dd = some (.xd fs) ∧ fs.lookup f = some v ∧ Q v H1
theorem x_xf {f : Str} {te : TE} (h : te σ H (xfK a cls d C f Q)) : tXf a cls d C f te σ H Q := h
/-- isinstance(e, c) of a caught exception without fields -/
def rIsX (K : PySem.W.Frag) (a : Addr) (cls : Value) (d : Option Addr) : List V → Hp → VK → Prop := fun xs H Q => ∃ (E : Addr) (t : String) (b : Bool), cls = .ref E ∧ d = none ∧ ExcC K E ∧ xs = [.ref a, .ty t] ∧ PySem.W.kitOne K (.ref E) (.type t) = some b ∧ Q (.bl b) H
/-- isinstance(e, C), C an own class -/
def rIsXC (K : PySem.W.Frag) (a : Addr) (cls : Value) (d : Option Addr) : List V → Hp → VK → Prop := fun xs H Q => ∃ (E C : Addr) (b : Bool), cls = .ref E ∧ d = none ∧ ExcC K E ∧ xs = [.ref a, .ref C] ∧ PySem.W.kitOne K (.ref E) (.ref C) = some b ∧ Q (.bl b) H
theorem cr_isXC {oe : Obj} {pn : List (Addr × Obj)} (hz : Zc cls d oe) (hf : ∃ vs, oe.data = .fields vs) : CallR (X.suite a ((a, oe) :: pn)) (.builtin "isinstance") (rIsXC X.K a cls d) := by
  intro pins s σ H xs us Q I r h
  obtain ⟨E, C, b, rfl, rfl, hE, rfl, hk, q⟩ := h
  exact call_isE hE hz hf pins s σ H _ us Q I r ⟨.ref C, .ref C, b, rfl, fun u z => z, hk, q⟩
theorem x_isXC {E C : Addr} {b : Bool} (q : Q (.bl b) H) (hE : ExcC K E) (hk : PySem.W.kitOne K (.ref E) (.ref C) = some b) : rIsXC K a (.ref E) none [.ref a, .ref C] H Q := ⟨E, C, b, rfl, rfl, hE, rfl, hk, q⟩
theorem cr_isX {oe : Obj} {pn : List (Addr × Obj)} (hz : Zc cls d oe) (hf : ∃ vs, oe.data = .fields vs) : CallR (X.suite a ((a, oe) :: pn)) (.builtin "isinstance") (rIsX X.K a cls d) := by
  intro pins s σ H xs us Q I r h
  obtain ⟨E, t, b, rfl, rfl, hE, rfl, hk, q⟩ := h
  exact call_isE hE hz hf pins s σ H _ us Q I r ⟨.ty t, .type t, b, rfl, fun u z => z, hk, q⟩
theorem x_isX {E : Addr} {t : String} {b : Bool} (q : Q (.bl b) H) (hE : ExcC K E) (hk : PySem.W.kitOne K (.ref E) (.type t) = some b) : rIsX K a (.ref E) none [.ref a, .ty t] H Q := ⟨E, t, b, rfl, rfl, hE, rfl, hk, q⟩
/-! a class with an own __init__ -/
structure WInit (K : PySem.W.Frag) (W : Addr) : Prop where
  ga : PySem.W.specialIn K (.ref W) "__getattribute__" = some (some (.builtin "type.__getattribute__"))
  rd : PySem.W.readsIn K W (.type "type") = true
  fd : PySem.W.findCls K (.ref W) (.type "type") "__init__" = some (.val (.builtin "ValueError.__init__"))
theorem pe_weinit {pl : Sem Bool} {x : Str} {Wc : Addr} {e : Expr} {es : List Expr} {ta : TA} {p1 p2 pos : Pos} (w : WInit X.K Wc) (hg : Gl X x) (hm : X.mg x = some (.ref Wc)) (ha : PA X (e :: es) ta) (hdb : (x == ("__debug__" : Str)) = false := by decide)
    (hc : eval (.Call (.Attribute (.Name x p1) "__init__" p2) (e :: es) [] pos) X.env = (do
      let ov ← eval (.Name x p1) X.env
      standAt p2.atName
      let (f, first) ← holding [ov] (getMethod ov "__init__" pl)
      callWith pos f first (backTo pos (starEach (e :: es) X.env)) (backToKw pos (keywordEach [] X.env))) := by rfl)
    (he : starEach (e :: es) X.env = (false, eval e X.env) :: starEach es X.env := by rfl) (hpl : (backTo pos (starEach es X.env)).any (·.1) = false := by rfl) :
    PE X (.Call (.Attribute (.Name x p1) "__init__" p2) (e :: es) [] pos) (tVeI X.K ta) := by
  refine ⟨fun pins s σ H Q I h => ?_⟩
  refine PySem.W.methodCall_KW (ld_glob I hg hm ?_ hdb) hc
  refine PySem.W.method_cls I.kIn w.ga (PySem.W.cls_value I.kIn w.rd w.fd (by decide +kernel) ?_)
  show wpAny _ _ (callWith pos (Value.builtin "ValueError.__init__") [] (backTo pos (starEach (e :: es) X.env)) []) _ _ _
  refine PyProof.Rows.callWith_method1 (thn (ha.run pos pins _ σ H _ (I.tok _) h) fun us s1 ⟨vs, H1, I1, r1, a, C, ws, ev, hl, T, ea, q⟩ => ?_) he hpl
  subst ev
  cases r1 with
  | @cons _ u0 _ ur ra rw' =>
    obtain rfl : u0 = Value.ref a := ra
    have hlen : ur.length ≤ sizeLine := by
      rw [← Paired.length rw', sizeLine_eq]
      omega
    exact oinit_ok T I1 ea hlen fun s' J => ⟨.non, H1, J, rfl, q⟩
def veK (K : PySem.W.Frag) (Q : VK) : List V → Hp → Prop := fun vs H1 => ∃ (a C : Addr) (ws : List V), vs = .ref a :: ws ∧ ws.length ≤ 1000 ∧ OexC K C ∧ H1 a = some (exo a C none) ∧ Q .non H1
theorem x_vei {ta : TA} (h : ta σ H (veK K Q)) : tVeI K ta σ H Q := h
theorem x_veK {ws : List V} (o : OexC K C) (h : H a = some (exo a C none)) (q : Q .non H) (hl : ws.length ≤ 1000) : veK K Q (.ref a :: ws) H := ⟨a, C, ws, rfl, hl, o, h, q⟩
/-- self.f = v, the first one -/
theorem x_ost {f : Str} {to te : TE} (h : te σ H fun y H1 => to σ H1 fun x H2 => ∃ a C : Addr, x = .ref a ∧ OexC K C ∧ PySem.W.findIn K (.ref C) f = some none ∧
  ((H2 a = some (exo a C none) ∧ ∀ dx, H2 dx = none → dx ≠ a → D.nx σ (upd (upd H2 dx (exd dx [(f, y)])) a (exo a C (some dx)))) ∨
    ∃ (dx : Addr) (fs : List (Str × V)), H2 a = some (exo a C (some dx)) ∧ H2 dx = some (exd dx fs) ∧ fs.length ≤ 900 ∧ D.nx σ (upd H2 dx (exd dx ((f, y) :: fs))))) : tOst K f to te D σ H := h
/-- the spec of an exception's __init__ with one field f: what is left -/
def spXInit (K : PySem.W.Frag) (C : Addr) (f : Str) (A : V → Prop) : Sp := fun vs H Q _ => ∃ (a : Addr) (v : V), vs = [.ref a, v] ∧ A v ∧ OexC K C ∧ PySem.W.findIn K (.ref C) f = some none ∧ H a = some (exo a C none) ∧
  ∀ dx, H dx = none → dx ≠ a → Q .non (upd (upd H dx (exd dx [(f, v)])) a (exo a C (some dx)))
theorem passE0 : Passes (L2.CX X.prog X.w) X (fun _ _ _ => False) := fun _ _ _ _ _ _ _ h => by
  obtain ⟨_, _, _, _, _, _, _, _, _, _, _, _, z⟩ := h
  exact z.elim
def moK (C : Addr) (sp : Sp) (dvs : List V) (Q : XK) : List V → Hp → Prop := fun vs H1 => vs.length ≤ 1000 ∧ ∀ a, H1 a = none → sp (.ref a :: (vs ++ dvs)) (upd H1 a (exo a C none))
  (fun v H2 => v = .non ∧ ∃ (d : Addr) (fs : List (Str × V)), H2 a = some (exo a C (some d)) ∧ H2 d = some (exd d fs) ∧ H1 d = none ∧ Q (.ref C) (some d) (upd (del H2 a) d (.xd fs))) (fun _ _ _ => False)
theorem x_mkO {sp : Sp} {dvs : List V} {Q : XK} {ta : TA} (h : ta σ H (moK C sp dvs Q)) : tMkO C sp dvs ta σ H Q := h
theorem x_moK {f : Str} {v : V} {A : V → Prop} {Q : XK} (hv : A v) (q : ∀ d H1, H d = none → Same H H1 → H1 d = some (.xd [(f, v)]) → Q (.ref C) (some d) H1) (o : OexC K C) (n : PySem.W.findIn K (.ref C) f = some none) : moK C (spXInit K C f A) [] Q [v] H := by
  refine ⟨Nat.le_of_ble_eq_true rfl, fun a na => ⟨a, v, rfl, hv, o, n, upd_same, fun dx nd ne => ⟨rfl, dx, [(f, v)], upd_same, ?_, ?_, ?_⟩⟩⟩
  · rw [upd_ne ne, upd_same]
  · rw [upd_ne ne] at nd; exact nd
  · rw [upd_ne ne] at nd
    have e : upd (del (upd (upd (upd H a (exo a C none)) dx (exd dx [(f, v)])) a (exo a C (some dx))) a) dx (.xd [(f, v)]) = upd H dx (.xd [(f, v)]) := by
      funext b
      by_cases hb : b = dx
      · rw [hb, upd_same, upd_same]
      · rw [upd_ne hb, upd_ne hb]
        by_cases hba : b = a
        · rw [hba, del_same, na]
        · rw [del_ne hba, upd_ne hba, upd_ne hb, upd_ne hba]
    rw [e]
    exact q dx _ nd (same_upd nd) upd_same
end
/-! several except clauses, some of them with a name -/
section
variable {X : Cx}
/-- what a clause does with an exception at q: the slot of its name, if it has one, holds it -/
def inAs (o : Option Nat) (ts : Addr → Value → Option Addr → TS) (q : Addr) (cls : Value) (d : Option Addr) : TS := match o with
  | none => ts q cls d
  | some i => fun D σ H => ts q cls d { nx := fun σ' H' => D.nx (σ'.set i none) H', rt := D.rt, bk := fun σ' H' => D.bk (σ'.set i none) H', ct := fun σ' H' => D.ct (σ'.set i none) H' } (σ.set i (some (.ref q))) H
def wMix (K : PySem.W.Frag) (Wout : WX) (D : Ends) : List (Value × Option Nat × (Addr → Value → Option Addr → TS)) → WX
  | [] => Wout
  | (c, o, ts) :: r => fun cls d σ H => ∃ b, PySem.W.exmOne K cls c = some b ∧ (b = true → ∀ q, H q = none → inAs o ts q cls d D σ H) ∧ (b = false → wMix K Wout D r cls d σ H)
def tMix (K : PySem.W.Frag) (l : List (Value × Option Nat × (Addr → Value → Option Addr → TS))) (tb : WX → TS) (Wout : WX) : TS := fun D σ H => tb (wMix K Wout D l) D σ H
variable {K : PySem.W.Frag} {Wout : WX} {D : Ends} {σ : L2.St} {H : Hp} {cls c : Value} {d : Option Addr}
theorem x_mix {l : List (Value × Option Nat × (Addr → Value → Option Addr → TS))} {tb : WX → TS} (h : tb (wMix K Wout D l) D σ H) : tMix K l tb Wout D σ H := h
theorem x_seqMix {l : List (Value × Option Nat × (Addr → Value → Option Addr → TS))} {tb : WX → TS} {u : TS} (h : tMix K l tb Wout { D with nx := u D } σ H) : tSeq (tMix K l tb Wout) u D σ H := h
end
/-! list(reversed(x)), x a list -/
section
variable {X : Cx}
def tListRev (K : PySem.W.Frag) (te : TE) : TE := fun σ H Q => te σ H fun v H1 => ∃ (a : Addr) (xs : List V), v = .ref a ∧ SqL K H1 a xs ∧ ∀ q, H1 q = none → Q (.ref q) (upd H1 q (.lst xs.reverse))
def lrK (K : PySem.W.Frag) (Q : VK) : V → Hp → Prop := fun v H1 => ∃ (a : Addr) (xs : List V), v = .ref a ∧ SqL K H1 a xs ∧ ∀ q, H1 q = none → Q (.ref q) (upd H1 q (.lst xs.reverse))
theorem x_listRev {K : PySem.W.Frag} {te : TE} {σ : L2.St} {H : Hp} {Q : VK} (h : te σ H (lrK K Q)) : tListRev K te σ H Q := h
theorem x_lrK {K : PySem.W.Frag} {H : Hp} {a : Addr} {xs : List V} {Q : VK} (h : SqL K H a xs) (q : New H Q (.lst xs.reverse)) : lrK K Q (.ref a) H := ⟨a, xs, rfl, h, q.mk⟩
end
/-! sorted pairs of numbers -/
theorem perm_sorted_eq {α : Type} {r : α → α → Prop} (anti : ∀ a b, r a b → r b a → a = b) : ∀ {l m : List α}, l.Perm m → l.Pairwise r → m.Pairwise r → l = m
  | [], m, h, _, _ => (List.nil_perm.mp h).symm
  | a :: l, [], h, _, _ => absurd h.symm (by intro z; exact absurd (List.nil_perm.mp z) (by simp))
  | a :: l, b :: m, h, h1, h2 => by
    have h1' := List.pairwise_cons.mp h1
    have h2' := List.pairwise_cons.mp h2
    have e : a = b := by
      rcases List.mem_cons.mp (h.mem_iff.mp List.mem_cons_self) with e | e
      · exact e
      rcases List.mem_cons.mp (h.symm.mem_iff.mp List.mem_cons_self) with e2 | e2
      · exact e2.symm
      · exact anti a b (h1'.1 b e2) (h2'.1 a e)
    subst e
    rw [perm_sorted_eq anti (List.Perm.cons_inv h) h1'.2 h2'.2]
def leP (a b : Int × Int) : Bool := !SrtO.lexB b a
def sortP (l : List (Int × Int)) : List (Int × Int) := l.mergeSort leP
theorem leP_iff {a b : Int × Int} : leP a b = true ↔ a.1 < b.1 ∨ (a.1 = b.1 ∧ a.2 ≤ b.2) := by
  unfold leP
  rw [Bool.not_eq_true', SrtO.lexB_no]
  omega
theorem sortP_pw (l : List (Int × Int)) : (sortP l).Pairwise fun a b => leP a b = true :=
  List.pairwise_mergeSort (fun a b c h1 h2 => by rw [leP_iff] at h1 h2 ⊢; omega) (fun a b => by
    rw [Bool.or_eq_true, leP_iff, leP_iff]; omega) l
theorem sortP_eq {ys l : List (Int × Int)} (hp : ys.Perm l) (hs : ys.Pairwise fun a b => leP a b = true) : ys = sortP l :=
  perm_sorted_eq (fun a b h1 h2 => by
    rw [leP_iff] at h1 h2
    exact Prod.ext (by omega) (by omega)) (hp.trans (List.mergeSort_perm l leP).symm) hs (sortP_pw l)
theorem sortP_perm (l : List (Int × Int)) : (sortP l).Perm l := List.mergeSort_perm l leP
/-- a list of tuples of two numbers each -/
def PairL (H : Hp) (xs : List V) (l : List (Int × Int)) : Prop := xs.length = l.length ∧ ∀ (i : Nat) x e, xs[i]? = some x → l[i]? = some e → ∃ t, x = .ref t ∧ H t = some (.tup [.int e.1, .int e.2])
theorem PairL.mono {H H' : Hp} {xs : List V} {l : List (Int × Int)} (s : TupS H H') (h : PairL H xs l) : PairL H' xs l := ⟨h.1, fun i x e h1 h2 => by
  obtain ⟨t, q, h⟩ := h.2 i x e h1 h2
  exact ⟨t, q, s _ _ h⟩⟩
theorem PairL.nil {H : Hp} : PairL H [] [] := ⟨rfl, fun i x e h _ => by simp at h⟩
theorem PairL.snoc {H : Hp} {xs : List V} {l : List (Int × Int)} {v : V} {e : Int × Int} (h : PairL H xs l) (hv : ∃ t, v = .ref t ∧ H t = some (.tup [.int e.1, .int e.2])) : PairL H (xs ++ [v]) (l ++ [e]) := by
  refine ⟨by simp [h.1], fun i x y h1 h2 => ?_⟩
  by_cases hi : i < xs.length
  · rw [List.getElem?_append_left hi] at h1
    rw [List.getElem?_append_left (h.1 ▸ hi)] at h2
    exact h.2 i x y h1 h2
  · have e1 : i = xs.length := by
      have := (List.getElem?_eq_some_iff.mp h1).1
      simp at this
      omega
    subst e1
    rw [List.getElem?_append_right (Nat.le_refl _)] at h1
    rw [h.1, List.getElem?_append_right (Nat.le_refl _)] at h2
    simp at h1 h2
    subst h1 h2
    exact hv
def pairV (H : Hp) : V → Int × Int
  | .ref t => match H t with
    | some (.tup [.int i, .int j]) => (i, j)
    | _ => (0, 0)
  | _ => (0, 0)
theorem pairV_ref {H : Hp} {t : Addr} {i j : Int} (h : H t = some (.tup [.int i, .int j])) : pairV H (.ref t) = (i, j) := by
  unfold pairV
  simp only [h]
theorem PairL.map {H : Hp} {xs : List V} {l : List (Int × Int)} (h : PairL H xs l) : xs.map (pairV H) = l := by
  refine List.ext_getElem? fun i => ?_
  rw [List.getElem?_map]
  cases e1 : xs[i]? with
  | none =>
    have := h.1
    rw [List.getElem?_eq_none_iff] at e1
    rw [List.getElem?_eq_none (by omega)]
    rfl
  | some x =>
    have hl := (List.getElem?_eq_some_iff.mp e1).1
    obtain ⟨e, e2⟩ : ∃ e, l[i]? = some e := ⟨_, List.getElem?_eq_getElem (by have := h.1; omega)⟩
    obtain ⟨t, rfl, ht⟩ := h.2 i x e e1 e2
    rw [e2, Option.map_some, pairV_ref ht]
theorem PairL.mem {H : Hp} {xs : List V} {l : List (Int × Int)} (h : PairL H xs l) {x : V} (hx : x ∈ xs) : ∃ t, x = .ref t ∧ H t = some (.tup [.int (pairV H x).1, .int (pairV H x).2]) := by
  obtain ⟨i, e1⟩ := List.mem_iff_getElem?.mp hx
  have hl := (List.getElem?_eq_some_iff.mp e1).1
  obtain ⟨e, e2⟩ : ∃ e, l[i]? = some e := ⟨_, List.getElem?_eq_getElem (by have := h.1; omega)⟩
  obtain ⟨t, rfl, ht⟩ := h.2 i x e e1 e2
  exact ⟨t, rfl, by rw [pairV_ref ht]; exact ht⟩
/-! sorted tuples of whole numbers, fewer than 64 -/
/-- a list of tuples of whole numbers -/
def TupL (H : Hp) (xs : List V) (ls : List (List Int)) : Prop := xs.length = ls.length ∧ ∀ (i : Nat) x e, xs[i]? = some x → ls[i]? = some e → ∃ t, x = .ref t ∧ H t = some (.tup (e.map V.int))
theorem TupL.mono {H H' : Hp} {xs : List V} {l : List (List Int)} (s : TupS H H') (h : TupL H xs l) : TupL H' xs l := ⟨h.1, fun i x e h1 h2 => by
  obtain ⟨t, q, h⟩ := h.2 i x e h1 h2
  exact ⟨t, q, s _ _ h⟩⟩
theorem TupL.nil {H : Hp} : TupL H [] [] := ⟨rfl, fun i x e h _ => by simp at h⟩
theorem TupL.snoc {H : Hp} {xs : List V} {l : List (List Int)} {v : V} {e : List Int} (h : TupL H xs l) (hv : ∃ t, v = .ref t ∧ H t = some (.tup (e.map V.int))) : TupL H (xs ++ [v]) (l ++ [e]) := by
  refine ⟨by simp [h.1], fun i x y h1 h2 => ?_⟩
  by_cases hi : i < xs.length
  · rw [List.getElem?_append_left hi] at h1
    rw [List.getElem?_append_left (h.1 ▸ hi)] at h2
    exact h.2 i x y h1 h2
  · have e1 : i = xs.length := by
      have := (List.getElem?_eq_some_iff.mp h1).1
      simp at this
      omega
    subst e1
    rw [List.getElem?_append_right (Nat.le_refl _)] at h1
    rw [h.1, List.getElem?_append_right (Nat.le_refl _)] at h2
    simp at h1 h2
    subst h1 h2
    exact hv
theorem TupL.take {H : Hp} {ws : List V} {is : List (List Int)} (h : TupL H ws is) (m : Nat) : TupL H (ws.take m) (is.take m) := ⟨by rw [List.length_take, List.length_take, h.1], fun i x e h1 h2 => by
  rw [List.getElem?_take] at h1 h2
  split at h1
  · rename_i hi
    rw [if_pos hi] at h2
    exact h.2 i x e h1 h2
  · cases h1⟩
def vInt : V → Int
  | .int n => n
  | _ => 0
theorem vInt_map (e : List Int) : (e.map V.int).map vInt = e := by
  rw [List.map_map]
  exact List.map_id'' (fun _ => rfl) e
def tupV (H : Hp) : V → List Int
  | .ref t => match H t with
    | some (.tup vs) => vs.map vInt
    | _ => []
  | _ => []
theorem tupV_ref {H : Hp} {t : Addr} {e : List Int} (h : H t = some (.tup (e.map V.int))) : tupV H (.ref t) = e := by
  unfold tupV
  simp only [h]
  exact vInt_map e
theorem TupL.get {H : Hp} {xs : List V} {l : List (List Int)} (h : TupL H xs l) {i : Nat} {x : V} (hi : xs[i]? = some x) : ∃ e t, l[i]? = some e ∧ x = .ref t ∧ H t = some (.tup (e.map V.int)) := by
  have hl := (List.getElem?_eq_some_iff.mp hi).1
  obtain ⟨e, e2⟩ : ∃ e, l[i]? = some e := ⟨_, List.getElem?_eq_getElem (by have := h.1; omega)⟩
  obtain ⟨t, rfl, ht⟩ := h.2 i x e hi e2
  exact ⟨e, t, e2, rfl, ht⟩
theorem TupL.map {H : Hp} {xs : List V} {l : List (List Int)} (h : TupL H xs l) : xs.map (tupV H) = l := by
  refine List.ext_getElem? fun i => ?_
  rw [List.getElem?_map]
  cases e1 : xs[i]? with
  | none =>
    have := h.1
    rw [List.getElem?_eq_none_iff] at e1
    rw [List.getElem?_eq_none (by omega)]
    rfl
  | some x =>
    obtain ⟨e, t, e2, rfl, ht⟩ := h.get e1
    rw [e2, Option.map_some, tupV_ref ht]
theorem TupL.mem {H : Hp} {xs : List V} {l : List (List Int)} (h : TupL H xs l) {x : V} (hx : x ∈ xs) : tupV H x ∈ l ∧ ∃ t, x = .ref t ∧ H t = some (.tup ((tupV H x).map V.int)) := by
  obtain ⟨i, e1⟩ := List.mem_iff_getElem?.mp hx
  obtain ⟨e, t, e2, rfl, ht⟩ := h.get e1
  rw [tupV_ref ht]
  exact ⟨List.mem_of_getElem? e2, t, rfl, ht⟩
/-- sorted(d), d a dict of fewer than 64 numbers -/
def rSDI : List V → Hp → VK → Prop := fun xs H Q => ∃ (a : Addr) (kvs : List (L2.Key × V)) (ks : List Int), xs = [.ref a] ∧ Rd H a (.dK kvs) ∧ kvs.map (·.1) = ks.map Sum.inl ∧ ks.length < 64 ∧
    ∀ (ys : List Int) (p : Addr), ys.Perm ks → ys.Pairwise (· ≤ ·) → H p = none → Q (.ref p) (upd H p (.lst (ys.map V.int)))
def uSorted (K : PySem.W.Frag) : List V → Hp → VK → Prop := fun xs H Q => rSorted K xs H Q ∨ (rSortedPO K xs H Q ∨ (rSortedI K xs H Q ∨ rSDI xs H Q))
theorem cr_usorted {X : Cx} (hc : X.calm = true := by rfl) : CallR X (.builtin "sorted") (uSorted X.K) := cr_sorted.or (cr_sortedPO.or (cr_sortedI.or (call_sortedDI hc)))
theorem x_sortP {K : PySem.W.Frag} {H : Hp} {a : Addr} {xs : List V} {l : List (Int × Int)} {Q : VK} (h : SqL K H a xs) (hx : PairL H xs l) (q : ∀ p ys H', H p = none → Same H H' → H' p = some (.lst ys) → PairL H' ys (sortP l) → Q (.ref p) H') : uSorted K [.ref a] H Q := by
  refine .inr (.inl ⟨a, xs, pairV H, rfl, h, fun x m => hx.mem m, fun ys p hs hb hp => ?_⟩)
  have hm : ys.map (pairV H) = sortP l := sortP_eq (by rw [← hx.map]; exact hb.perm.map _) (List.pairwise_map.mpr (hs.imp fun {a b} z => by
    unfold leP
    rw [show SrtO.lexB (pairV H b) (pairV H a) = false from z]
    rfl))
  refine q p ys _ hp (same_upd hp) upd_same ⟨by rw [← hm, List.length_map], fun i x e h1 h2 => ?_⟩
  rw [← hm, List.getElem?_map, h1] at h2
  simp at h2
  subst h2
  obtain ⟨t, e1, ht⟩ := hx.mem (hb.perm.mem_iff.mp (List.mem_of_getElem? h1))
  exact ⟨t, e1, same_upd hp _ _ ht⟩
/-! sorted numbers -/
def sortZ (l : List Int) : List Int := l.mergeSort fun a b => decide (a ≤ b)
theorem sortZ_pw (l : List Int) : (sortZ l).Pairwise (· ≤ ·) :=
  (List.pairwise_mergeSort (le := fun a b : Int => decide (a ≤ b)) (fun a b c h1 h2 => by simp only [decide_eq_true_eq] at h1 h2 ⊢; omega) (fun a b => by
    simp only [Bool.or_eq_true, decide_eq_true_eq]; omega) l).imp fun h => of_decide_eq_true h
theorem sortZ_perm (l : List Int) : (sortZ l).Perm l := List.mergeSort_perm l _
theorem sortZ_eq {ys l : List Int} (hp : ys.Perm l) (hs : ys.Pairwise (· ≤ ·)) : ys = sortZ l :=
  perm_sorted_eq (fun a b h1 h2 => Int.le_antisymm h1 h2) (hp.trans (sortZ_perm l).symm) hs (sortZ_pw l)
theorem x_sortI {K : PySem.W.Frag} {H : Hp} {a : Addr} {ns : List Int} {Q : VK} (h : SqL K H a (ns.map V.int)) (q : ∀ p H', H p = none → Same H H' → H' p = some (.lst ((sortZ ns).map V.int)) → Q (.ref p) H') : uSorted K [.ref a] H Q :=
  .inr (.inr (.inl ⟨a, ns, rfl, h, fun ys p hp hs hn => by rw [sortZ_eq hp hs]; exact q p _ hn (same_upd hn) upd_same⟩))
/-! a comprehension over the keys of a dict -/
section
variable {σ : L2.St} {H : Hp} {g : TG} {tt : TT} {te td : TE} {vs : List Nat} {a : Addr} {Q : VK} {kvs : List (L2.Key × V)} {od : Obj}
def lcKy (g : TG) (tt : TT) (te : TE) (vs : List Nat) (σ : L2.St) (Q : VK) : V → Hp → Prop := fun x H1 => ∃ d o, x = .ref d ∧ ((∃ kvs, H1 d = some (.frz o (.dK kvs)) ∧ lcK (Itk d o kvs) g tt te vs σ Q H1) ∨ ∃ kvs, H1 d = some (.frz o (.dT kvs)) ∧ lcK (Itkt d o kvs) g tt te vs σ Q H1)
theorem x_lcKyK (hq : H a = some (.frz od (.dK kvs))) (A : Nat → List V → Hp → Prop) (hA : ∀ i acc H H', TupS H H' → A i acc H → A i acc H') (hn : kvs.length < sizeLine) (h0 : A 0 [] H)
    (hs : ∀ i k v acc H', kvs[i]? = some (k, v) → Same H H' → A i acc H' → LcTurn g tt te vs σ A i (kV k) acc H')
    (hd : ∀ p acc H', H p = none → Same H H' → H' p = some (.lst acc) → A kvs.length acc H' → Q (.ref p) H') : lcKy g tt te vs σ Q (.ref a) H :=
  ⟨a, od, rfl, .inl ⟨kvs, hq, lc_gen (fun i x => ∃ k v, kvs[i]? = some (k, v) ∧ x = kV k) A hA hn h0 (fun Pv Dr hP p0 ht hd => lc_it walk_keys Pv p0 (fun i H' _ p => hP i H' p _ _ hq) (fun i x H' H'' hi p y => by
    obtain ⟨rfl, k, v, e, rfl⟩ := y
    exact ht i _ _ ⟨k, v, e, rfl⟩ p) hd) (fun i x acc H' ⟨k, v, e, hx⟩ s ha => by rw [hx]; exact hs i k v acc H' e s ha) (fun i x ⟨k, v, e, _⟩ => (List.getElem?_eq_some_iff.mp e).1) hd⟩⟩
theorem x_lcDK (h : H a = some (.dK kvs)) (htd : ∀ (od : Obj) (Q' : VK), Q' (.ref a) (upd H a (.frz od (.dK kvs))) → td σ (upd H a (.frz od (.dK kvs))) Q') (A : Nat → List V → Hp → Prop) (hA : ∀ i acc H H', TupS H H' → A i acc H → A i acc H') (hn : kvs.length < sizeLine) (h0 : A 0 [] H)
    (hs : ∀ i k v acc H', kvs[i]? = some (k, v) → Off [a] H H' → (∃ od, H' a = some (.frz od (.dK kvs))) → A i acc H' → LcTurn g tt te vs σ A i (kV k) acc H')
    (hd : ∀ p acc H', H p = none → Same H H' → H' p = some (.lst acc) → A kvs.length acc H' → Q (.ref p) H') : tLockE (tLc (iKeys td) g tt te vs) σ H Q := by
  refine ⟨a, .dK kvs, h, trivial, fun od => htd od _ ?_⟩
  have tu : TupS H (upd H a (.frz od (.dK kvs))) := TupS.upd h (fun _ z => by cases z)
  have key := x_lcKyK (g := g) (tt := tt) (te := te) (vs := vs) (σ := σ) (Q := fun v H' => H' a = some (.frz od (.dK kvs)) ∧ Q v (upd H' a (.dK kvs))) (H := upd H a (.frz od (.dK kvs))) (od := od) upd_same A hA hn (hA _ _ _ _ tu h0) (fun i k v acc H' e s ha => hs i k v acc H' e (fun b o nb eb => s b o (by rw [upd_ne (fun z => nb (by rw [z]; exact List.mem_singleton.mpr rfl))]; exact eb)) ⟨od, s _ _ upd_same⟩ ha) (fun p acc H' hp s hn ha => by
  refine ⟨s _ _ upd_same, ?_⟩
  have hpa : p ≠ a := fun z => by
    rw [z, upd_same] at hp
    cases hp
  rw [upd_ne hpa] at hp
  refine hd p acc _ hp (fun b o e => ?_) (by rw [upd_ne hpa]; exact hn) (hA _ _ _ _ (TupS.upd (s _ _ upd_same) (fun _ z => by cases z)) ha)
  by_cases hb : b = a
  · rw [hb, h] at e
    rw [hb, upd_same]
    exact e
  · rw [upd_ne hb]
    exact s b o (by rw [upd_ne hb]; exact e))
  exact key
end
/-! a loop over the values of a dict, which is locked meanwhile -/
/-! min of a list of pairs of numbers -/
section
variable {prog : Program} {w : World} {A : Around} {R : Result → Shared → Prop} {I : Addr} {fp wr : List Addr} {n : Nat} {P : Nat → Value → Prop} {St : Nat → Heap → Prop}
/-- what stays but for the walk's own and the list at S -/
def KeepsB (wr : List Addr) (S : Addr) (h0 h : Heap) : Prop := ∀ b o, b ∉ wr → b ≠ S → h0.get? b = some o → h.get? b = some o
theorem KeepsB.put {S : Addr} {h0 h : Heap} {f : Obj → Obj} (a : KeepsB wr S h0 h) : KeepsB wr S h0 (h.update S f) := fun b o n1 n2 e => (Heap.get?_update_other _ _ (Ne.symm n2)).trans (a b o n1 n2 e)
end
/-! ### built-in calls -/
section
variable {X : Cx}
def uMax (K : PySem.W.Frag) : List V → Hp → VK → Prop := fun xs H Q => (∃ i j, xs = [.int i, .int j] ∧ Q (.int (if j > i then j else i)) H) ∨ rMax K xs H Q
theorem cr_umax (hc : X.calm = true := by rfl) : CallR X (.builtin "max") (uMax X.K) := (call_max2 hc).or (cr_max hc)
def uMin (K : PySem.W.Frag) : List V → Hp → VK → Prop := fun xs H Q => (∃ i j, xs = [.int i, .int j] ∧ Q (.int (if j < i then j else i)) H) ∨ rMin K xs H Q
theorem cr_umin (hc : X.calm = true := by rfl) : CallR X (.builtin "min") (uMin X.K) := (call_min2 hc).or (cr_min hc)
def uList (K : PySem.W.Frag) : List V → Hp → VK → Prop := fun xs H Q => (∃ p ys, xs = [.ref p] ∧ (SqL K H p ys ∨ SqT K H p ys) ∧ ∀ l, H l = none → Q (.ref l) (upd H l (.lst ys))) ∨ rListD xs H Q
theorem ct_list (hc : X.calm = true := by rfl) : CallR X (.type "list") (uList X.K) := call_list_of.or (call_list_dK hc)
def uTup (K : PySem.W.Frag) : List V → Hp → VK → Prop := fun xs H Q => ∃ x, xs = [x] ∧ kTup K x H Q
def uInt : List V → Hp → VK → Prop := fun xs H Q => (∃ i, xs = [.int i] ∧ Q (.int i) H) ∨ ∃ k, xs = [.bl k] ∧ Q (.int (if k then 1 else 0)) H
theorem ct_int : CallR X (.type "int") uInt := call_int1
theorem bt_max : bootBuiltins "max" = some (.builtin "max") := by decide +kernel
theorem bt_min : bootBuiltins "min" = some (.builtin "min") := by decide +kernel
theorem bt_sorted : bootBuiltins "sorted" = some (.builtin "sorted") := by decide +kernel
def uLen (K : PySem.W.Frag) : List V → Hp → VK → Prop := fun xs H Q => (∃ p ys, xs = [.ref p] ∧ (SqL K H p ys ∨ SqT K H p ys) ∧ Q (.int ys.length) H) ∨ ((∃ z, xs = [.str z] ∧ z.length ≤ sizeLine ∧ Q (.int z.length) H) ∨ (∃ a kvs, xs = [V.ref a] ∧ H a = some (.dK kvs) ∧ Q (.int kvs.length) H))
theorem cr_ulen : CallR X (.builtin "len") (uLen X.K) := call_len_seq.or (call_len_str.or call_lenD)
def uIsi (K : PySem.W.Frag) : List V → Hp → VK → Prop := rIsi K
theorem cr_uisinstance : CallR X (.builtin "isinstance") (uIsi X.K) := call_isi
def uStr : List V → Hp → VK → Prop := fun xs H Q => ∃ i, xs = [.int i] ∧ i.natAbs.log2 < 1920 ∧ Q (.str (toString i)) H
theorem ct_str : CallR X (.type "str") uStr := call_str_int
theorem bt_isinstance : bootBuiltins "isinstance" = some (.builtin "isinstance") := by decide +kernel
theorem bt_int : bootBuiltins "int" = some (.type "int") := by decide +kernel
theorem bt_bool : bootBuiltins "bool" = some (.type "bool") := by decide +kernel
theorem bt_str : bootBuiltins "str" = some (.type "str") := by decide +kernel
theorem bt_ValueError : bootBuiltins "ValueError" = some (.type "ValueError") := by decide +kernel
theorem bt_list : bootBuiltins "list" = some (.type "list") := by decide +kernel
theorem bt_tuple : bootBuiltins "tuple" = some (.type "tuple") := by decide +kernel
theorem bt_len : bootBuiltins "len" = some (.builtin "len") := by decide +kernel
end
section
variable {σ : L2.St} {H : Hp} {K : PySem.W.Frag} {Q : VK} {p : Addr} {xs : List V} {n : Int} {v : V}
theorem x_lenL (h : SqL K H p xs) (q : Q (.int xs.length) H) : uLen K [.ref p] H Q := .inl ⟨p, xs, rfl, .inl h, q⟩
theorem x_lenM {α : Type} {l : List α} {f : α → V} (h : SqL K H p (l.map f)) (q : Q (.int l.length) H) : uLen K [.ref p] H Q := .inl ⟨p, _, rfl, .inl h, by rw [List.length_map]; exact q⟩
theorem x_lenT (h : SqT K H p xs) (q : Q (.int xs.length) H) : uLen K [.ref p] H Q := .inl ⟨p, xs, rfl, .inr h, q⟩
/-- the built-in class of a value -/
def tyN : V → Option String
  | .non => some "NoneType" | .bl _ => some "bool" | .int _ => some "int" | .str _ => some "str" | .flt _ => some "float" | _ => none
theorem x_isiV {c : String} {t : String} {b : Bool} (ht : tyN v = some t) (hk : kitB t c = some b) (q : Q (.bl b) H) : uIsi K [v, .ty c] H Q := by
  have ty : TyX K H v (.type t) := by
    cases v <;> simp only [tyN, Option.some.injEq, reduceCtorEq] at ht <;> subst ht
    · exact .base .non
    · exact .base (.bl _)
    · exact .base (.int _)
    · exact .base (.str _)
    · exact .base (.flt _)
  exact ⟨v, .ty c, .type t, .type c, b, rfl, .ty c, ty, kit_ty hk, q⟩
theorem x_isiR {c t : String} {b : Bool} (ty : TyX K H (.ref p) (.type t)) (hk : kitB t c = some b) (q : Q (.bl b) H) : uIsi K [.ref p, .ty c] H Q :=
  ⟨.ref p, .ty c, .type t, .type c, b, rfl, .ty c, ty, kit_ty hk, q⟩
theorem x_isiNon_int (q : Q (.bl false) H) : uIsi K [V.non, .ty "int"] H Q := x_isiV rfl (by decide +kernel) q
theorem x_isiNon_bool (q : Q (.bl false) H) : uIsi K [V.non, .ty "bool"] H Q := x_isiV rfl (by decide +kernel) q
theorem x_isiNon_str (q : Q (.bl false) H) : uIsi K [V.non, .ty "str"] H Q := x_isiV rfl (by decide +kernel) q
theorem x_isiNon_list (q : Q (.bl false) H) : uIsi K [V.non, .ty "list"] H Q := x_isiV rfl (by decide +kernel) q
theorem x_isiNon_tuple (q : Q (.bl false) H) : uIsi K [V.non, .ty "tuple"] H Q := x_isiV rfl (by decide +kernel) q
theorem x_isiNon_dict (q : Q (.bl false) H) : uIsi K [V.non, .ty "dict"] H Q := x_isiV rfl (by decide +kernel) q
theorem x_isiBl_int {b : Bool} (q : Q (.bl true) H) : uIsi K [(V.bl b), .ty "int"] H Q := x_isiV rfl (by decide +kernel) q
theorem x_isiBl_bool {b : Bool} (q : Q (.bl true) H) : uIsi K [(V.bl b), .ty "bool"] H Q := x_isiV rfl (by decide +kernel) q
theorem x_isiBl_str {b : Bool} (q : Q (.bl false) H) : uIsi K [(V.bl b), .ty "str"] H Q := x_isiV rfl (by decide +kernel) q
theorem x_isiBl_list {b : Bool} (q : Q (.bl false) H) : uIsi K [(V.bl b), .ty "list"] H Q := x_isiV rfl (by decide +kernel) q
theorem x_isiBl_tuple {b : Bool} (q : Q (.bl false) H) : uIsi K [(V.bl b), .ty "tuple"] H Q := x_isiV rfl (by decide +kernel) q
theorem x_isiBl_dict {b : Bool} (q : Q (.bl false) H) : uIsi K [(V.bl b), .ty "dict"] H Q := x_isiV rfl (by decide +kernel) q
theorem x_isiInt_int (q : Q (.bl true) H) : uIsi K [(V.int n), .ty "int"] H Q := x_isiV rfl (by decide +kernel) q
theorem x_isiInt_bool (q : Q (.bl false) H) : uIsi K [(V.int n), .ty "bool"] H Q := x_isiV rfl (by decide +kernel) q
theorem x_isiInt_str (q : Q (.bl false) H) : uIsi K [(V.int n), .ty "str"] H Q := x_isiV rfl (by decide +kernel) q
theorem x_isiInt_list (q : Q (.bl false) H) : uIsi K [(V.int n), .ty "list"] H Q := x_isiV rfl (by decide +kernel) q
theorem x_isiInt_tuple (q : Q (.bl false) H) : uIsi K [(V.int n), .ty "tuple"] H Q := x_isiV rfl (by decide +kernel) q
theorem x_isiInt_dict (q : Q (.bl false) H) : uIsi K [(V.int n), .ty "dict"] H Q := x_isiV rfl (by decide +kernel) q
theorem x_isiStr_int {z : Str} (q : Q (.bl false) H) : uIsi K [(V.str z), .ty "int"] H Q := x_isiV rfl (by decide +kernel) q
theorem x_isiStr_bool {z : Str} (q : Q (.bl false) H) : uIsi K [(V.str z), .ty "bool"] H Q := x_isiV rfl (by decide +kernel) q
theorem x_isiStr_str {z : Str} (q : Q (.bl true) H) : uIsi K [(V.str z), .ty "str"] H Q := x_isiV rfl (by decide +kernel) q
theorem x_isiStr_list {z : Str} (q : Q (.bl false) H) : uIsi K [(V.str z), .ty "list"] H Q := x_isiV rfl (by decide +kernel) q
theorem x_isiStr_tuple {z : Str} (q : Q (.bl false) H) : uIsi K [(V.str z), .ty "tuple"] H Q := x_isiV rfl (by decide +kernel) q
theorem x_isiStr_dict {z : Str} (q : Q (.bl false) H) : uIsi K [(V.str z), .ty "dict"] H Q := x_isiV rfl (by decide +kernel) q
theorem x_isiLst_int (h : H p = some (.lst xs)) (q : Q (.bl false) H) : uIsi K [.ref p, .ty "int"] H Q := x_isiR (.base (.lst h)) (by decide +kernel) q
theorem x_isiLst_bool (h : H p = some (.lst xs)) (q : Q (.bl false) H) : uIsi K [.ref p, .ty "bool"] H Q := x_isiR (.base (.lst h)) (by decide +kernel) q
theorem x_isiLst_str (h : H p = some (.lst xs)) (q : Q (.bl false) H) : uIsi K [.ref p, .ty "str"] H Q := x_isiR (.base (.lst h)) (by decide +kernel) q
theorem x_isiLst_list (h : H p = some (.lst xs)) (q : Q (.bl true) H) : uIsi K [.ref p, .ty "list"] H Q := x_isiR (.base (.lst h)) (by decide +kernel) q
theorem x_isiLst_tuple (h : H p = some (.lst xs)) (q : Q (.bl false) H) : uIsi K [.ref p, .ty "tuple"] H Q := x_isiR (.base (.lst h)) (by decide +kernel) q
theorem x_isiLst_dict (h : H p = some (.lst xs)) (q : Q (.bl false) H) : uIsi K [.ref p, .ty "dict"] H Q := x_isiR (.base (.lst h)) (by decide +kernel) q
theorem x_isiTup_int (h : H p = some (.tup xs)) (q : Q (.bl false) H) : uIsi K [.ref p, .ty "int"] H Q := x_isiR (.base (.tup h)) (by decide +kernel) q
theorem x_isiTup_bool (h : H p = some (.tup xs)) (q : Q (.bl false) H) : uIsi K [.ref p, .ty "bool"] H Q := x_isiR (.base (.tup h)) (by decide +kernel) q
theorem x_isiTup_str (h : H p = some (.tup xs)) (q : Q (.bl false) H) : uIsi K [.ref p, .ty "str"] H Q := x_isiR (.base (.tup h)) (by decide +kernel) q
theorem x_isiTup_list (h : H p = some (.tup xs)) (q : Q (.bl false) H) : uIsi K [.ref p, .ty "list"] H Q := x_isiR (.base (.tup h)) (by decide +kernel) q
theorem x_isiTup_tuple (h : H p = some (.tup xs)) (q : Q (.bl true) H) : uIsi K [.ref p, .ty "tuple"] H Q := x_isiR (.base (.tup h)) (by decide +kernel) q
theorem x_isiTup_dict (h : H p = some (.tup xs)) (q : Q (.bl false) H) : uIsi K [.ref p, .ty "dict"] H Q := x_isiR (.base (.tup h)) (by decide +kernel) q
theorem x_isiDk_int {kvs : List (Key × V)} (h : H p = some (.dK kvs)) (q : Q (.bl false) H) : uIsi K [.ref p, .ty "int"] H Q := x_isiR (.base (.dK h)) (by decide +kernel) q
theorem x_isiDk_bool {kvs : List (Key × V)} (h : H p = some (.dK kvs)) (q : Q (.bl false) H) : uIsi K [.ref p, .ty "bool"] H Q := x_isiR (.base (.dK h)) (by decide +kernel) q
theorem x_isiDk_str {kvs : List (Key × V)} (h : H p = some (.dK kvs)) (q : Q (.bl false) H) : uIsi K [.ref p, .ty "str"] H Q := x_isiR (.base (.dK h)) (by decide +kernel) q
theorem x_isiDk_list {kvs : List (Key × V)} (h : H p = some (.dK kvs)) (q : Q (.bl false) H) : uIsi K [.ref p, .ty "list"] H Q := x_isiR (.base (.dK h)) (by decide +kernel) q
theorem x_isiDk_tuple {kvs : List (Key × V)} (h : H p = some (.dK kvs)) (q : Q (.bl false) H) : uIsi K [.ref p, .ty "tuple"] H Q := x_isiR (.base (.dK h)) (by decide +kernel) q
theorem x_isiDk_dict {kvs : List (Key × V)} (h : H p = some (.dK kvs)) (q : Q (.bl true) H) : uIsi K [.ref p, .ty "dict"] H Q := x_isiR (.base (.dK h)) (by decide +kernel) q
theorem x_intB {b : Bool} (q : Q (.int (if b then 1 else 0)) H) : uInt [.bl b] H Q := .inr ⟨b, rfl, q⟩
theorem x_intI {m : Int} (q : Q (.int m) H) : uInt [.int m] H Q := .inl ⟨m, rfl, q⟩
theorem x_max2 {m n : Int} (q : Q (.int (if n > m then n else m)) H) : uMax K [.int m, .int n] H Q := .inl ⟨m, n, rfl, q⟩
theorem x_min2 {m n : Int} (q : Q (.int (if n < m then n else m)) H) : uMin K [.int m, .int n] H Q := .inl ⟨m, n, rfl, q⟩
theorem x_list (h : SqL K H p xs) (q : New H Q (.lst xs)) : uList K [.ref p] H Q := .inl ⟨p, xs, rfl, .inl h, q.mk⟩
theorem x_tupL (h : SqL K H p xs) (q : New H Q (.tup xs)) : uTup K [.ref p] H Q := ⟨_, rfl, .inl ⟨p, xs, rfl, h, q.mk⟩⟩
theorem x_listD {kvs : List (L2.Key × V)} (h : H p = some (.dK kvs)) (q : New H Q (.lst (kvs.map fun kv => kV kv.1))) : uList K [.ref p] H Q := .inr ⟨p, kvs, rfl, h, q.mk⟩
theorem x_lenD {kvs : List (L2.Key × V)} (h : H p = some (.dK kvs)) (q : Q (.int kvs.length) H) : uLen K [.ref p] H Q := .inr (.inr ⟨p, kvs, rfl, h, q⟩)
theorem x_str (q : Q (.str (toString n)) H) (h : n.natAbs.log2 < 1920) : uStr [.int n] H Q := ⟨n, rfl, h, q⟩
end
/-! ### the same rules where K is told (inside a comprehension) -/
section
variable {X : Cx} {K : PySem.W.Frag} {a b e : Expr} {rest : List Expr} {ta tb : TE} {pos : Pos} {f : Str}
theorem K_ix (hK : X.K = K := by rfl) : IxR X (rIx K) := hK ▸ ix_seq
theorem K_add (hK : X.K = K := by rfl) : OpR X (binaryOp .Add) (uAdd K) := hK ▸ op_uAdd
theorem K_ne (hu : X.A.units + 64 < cLine) (hK : X.K = K := by rfl) : OpR X (compareOp .NotEq) (uNe K) := hK ▸ op_uNe hu
theorem K_fld (he : PE X e ta) (hb : attributeBase e f X.env (eval e X.env) = eval e X.env) (hK : X.K = K := by rfl) : PE X (.Attribute e f pos) (tFld K ta f) := hK ▸ pe_fld he hb
theorem K_andT (ha : PE X a ta) (hb : PE X (.BoolOp .And (b :: rest) pos) tb) (hK : X.K = K := by rfl) : PE X (.BoolOp .And (a :: b :: rest) pos) (tAndT K ta tb) := hK ▸ pe_andT ha hb
theorem K_gtup {K : PySem.W.Frag} {es : List Expr} {k : Nat} {ts : TGs} {n : Nat} {pos : Pos} (hc : X.calm = true) (h : PGs X es ts) (hn : (assignEach es X.env).length = n := by rfl) (hst : (assignEach es X.env).findIdx? (·.1) = none := by rfl) (hK : X.K = K := by rfl) : PG X (.Tuple es k pos) (gTup K n ts) := hK ▸ pg_tup hc h hn hst
theorem K_methD {P : Program} {w : World} {mg : Str → Option Value} {base : Heap} {k : Nat} {E : L2.St → XK} {m : Str} {pos apos : Pos} {e o : Expr} {es : List Expr} {t : TA} {pl : Sem Bool} (he : PE X o ta) (hr : Room k X.A) (hx : ∀ σ, PassesAt (L2.CX P w) X σ (E σ)) (ha : PA X (e :: es) t)
    (hst : starEach (e :: es) X.env = (false, eval e X.env) :: starEach es X.env := by rfl) (hpl : (backTo pos (starEach es X.env)).any (·.1) = false := by rfl)
    (ht : eval (.Call (.Attribute o m apos) (e :: es) [] pos) X.env = (do
      let ov ← eval o X.env
      standAt apos.atName
      let (f, first) ← holding [ov] (getMethod ov m pl)
      callWith pos f first (backTo pos (starEach (e :: es) X.env)) (backToKw pos (keywordEach [] X.env))) := by rfl)
    (h1 : X.prog = P := by rfl) (h2 : X.w = w := by rfl) (h3 : X.K = K := by rfl) (h4 : X.mg = mg := by rfl) (h5 : X.base = base := by rfl) :
    PE X (.Call (.Attribute o m apos) (e :: es) [] pos) (tMethD P w K mg base (L2.CX P w) k m E ta t) := by
  subst h1 h2 h3 h4 h5
  exact pe_methD he hr hx ha hst hpl ht
theorem K_methD0 {P : Program} {w : World} {mg : Str → Option Value} {base : Heap} {k : Nat} {E : L2.St → XK} {m : Str} {pos apos : Pos} {o : Expr} {pl : Sem Bool} (he : PE X o ta) (hr : Room k X.A) (hx : ∀ σ, PassesAt (L2.CX P w) X σ (E σ))
    (ht : eval (.Call (.Attribute o m apos) [] [] pos) X.env = (do
      let ov ← eval o X.env
      standAt apos.atName
      let (f, first) ← holding [ov] (getMethod ov m pl)
      callWith pos f first (backTo pos (starEach [] X.env)) (backToKw pos (keywordEach [] X.env))) := by rfl)
    (h1 : X.prog = P := by rfl) (h2 : X.w = w := by rfl) (h3 : X.K = K := by rfl) (h4 : X.mg = mg := by rfl) (h5 : X.base = base := by rfl) :
    PE X (.Call (.Attribute o m apos) [] [] pos) (tMethD P w K mg base (L2.CX P w) k m E ta tNil) := by
  subst h1 h2 h3 h4 h5
  exact pe_methD0 he hr hx ht
theorem K_truth (ha : PE X a ta) (he : ∀ whole, isTrue a X.env whole = (do let v ← whole; standAt a.pos; holding [v] (truthy v))) (hK : X.K = K := by rfl) : PT X a (fun σ H Q => ta σ H fun x H' => ∃ k, TruV K x H' k ∧ Q k H') := hK ▸ pt_truth ha he
end
/-! sorted(d.items()), d a dict from whole numbers to whole numbers -/
/-! ### min(xs, default=d), max(xs, default=d); Base.__init__(self, ..) -/
section
def minZ (d : Int) : List Int → Int
  | [] => d
  | n :: ns => ns.foldl min n
/-- C.__init__(self, ..), C an own class -/
structure CInit (K : PySem.W.Frag) (C f : Addr) : Prop where
  ga : PySem.W.specialIn K (.ref C) "__getattribute__" = some (some (.builtin "type.__getattribute__"))
  rd : PySem.W.readsIn K C (.type "type") = true
  fd : PySem.W.findCls K (.ref C) (.type "type") "__init__" = some (.val (.ref f))
theorem pe_cinit {X : Cx} {CX : CXT} {k : Nat} {f : Addr} {fd : FuncData} {ps : List Str} {sp : Sp} {E : L2.St → XK} {pl : Sem Bool} {x : Str} {C : Addr} {e : Expr} {es : List Expr} {t : TA} {p1 p2 pos : Pos} (w : CInit X.K C f) (F : FnOk X.prog X.w X.K X.mg X.base CX k f fd ps sp) (hr : Room k X.A)
    (hg : Gl X x) (hm : X.mg x = some (.ref C)) (hk : PySem.W.keepIn X.K (.ref f) = true) (hb : Binds X.K fd ps []) (hx : ∀ σ, PassesAt CX X σ (E σ)) (ha : PA X (e :: es) t) (hdb : (x == ("__debug__" : Str)) = false := by decide)
    (hc : eval (.Call (.Attribute (.Name x p1) "__init__" p2) (e :: es) [] pos) X.env = (do
      let ov ← eval (.Name x p1) X.env
      standAt p2.atName
      let (f, first) ← holding [ov] (getMethod ov "__init__" pl)
      callWith pos f first (backTo pos (starEach (e :: es) X.env)) (backToKw pos (keywordEach [] X.env))) := by rfl)
    (he : starEach (e :: es) X.env = (false, eval e X.env) :: starEach es X.env := by rfl) (hpl : (backTo pos (starEach es X.env)).any (·.1) = false := by rfl) :
    PE X (.Call (.Attribute (.Name x p1) "__init__" p2) (e :: es) [] pos) (tCallS sp E t) := by
  refine ⟨fun pins s σ H Q I h => ?_⟩
  refine PySem.W.methodCall_KW (ld_glob I hg hm ?_ hdb) hc
  refine PySem.W.method_cls I.kIn w.ga (PySem.W.cls_value I.kIn w.rd w.fd rfl ?_)
  refine PySem.W.callWith_K (first := []) (h₀ := X.base) I.ok.mod.kin hk (thn (ha.run pos pins _ σ H _ (I.tok _) h) fun us s1 ⟨vs, H1, I1, r, q⟩ => ⟨I1.kIn, ?_⟩) he hpl
  exact run_fnS F hr hb (hx σ) I1 r q
end
/-! isinstance(x, C) of an own instance -/
structure InsC (K : PySem.W.Frag) (C : Addr) : Prop where
  ha : PySem.W.findIn K (.ref C) "__class__" = some (some (.builtin "object.__class__"))
  hn : PySem.W.specialIn K (.builtin "object.__class__") "__get__" = some (some (.builtin "getset_descriptor.__get__"))
  ht : PySem.W.takesIn K (.builtin "object.__class__") = some true
  hm : PySem.W.mroIn K C (.type "object") = some true
theorem x_isI {K : PySem.W.Frag} {H : Hp} {Q : VK} {a C D dx : Addr} {fs : List (Str × V)} {b : Bool} (ho : H a = some (.ins C dx fs)) (hc : Cls K C) (i : InsC K C) (hk : PySem.W.kitOne K (.ref C) (.ref D) = some b) (q : Q (.bl b) H) : uIsi K [.ref a, .ref D] H Q :=
  ⟨.ref a, .ref D, .ref C, .ref D, b, rfl, .own D, .base (.ins ho hc i.ha i.hn i.ht i.hm), hk, q⟩
/-! ### a caught exception as an object that is tracked -/
section
/-- the object at a is oe -/
def PinO (a : Addr) (oe : Obj) : HO := .ext fun h => h.get? a = some oe
/-- an exception of the class cls, its own dict at d -/
def ExV (H : Hp) (a : Addr) (cls : Value) (d : Option Addr) : Prop := ∃ oe, H a = some (PinO a oe) ∧ Zc cls d oe ∧ ∃ vs, oe.data = .fields vs
theorem ExV.mono {H H' : Hp} {a : Addr} {cls : Value} {d : Option Addr} (s : Same H H') (h : ExV H a cls d) : ExV H' a cls d := by
  obtain ⟨oe, e, r⟩ := h
  exact ⟨oe, s _ _ e, r⟩
variable {X : Cx} {pins : List (Addr × Obj)} {σ : L2.St} {H : Hp} {s sI : Shared}
end
section
variable {X : Cx} {x n : Str} {c : Value} {i : Nat} {body suite : List Stmt} {b₀ : Stmt} {np pos pos' : Pos} {tb : WX → TS} {ts : TS} {Wout : WX}
def wAsK (K : PySem.W.Frag) (c : Value) (i : Nat) (ts : TS) (Wout : WX) (D : Ends) : WX := fun cls d σ H =>
  ∃ b, PySem.W.exmOne K cls c = some b ∧ (b = true → ∀ a oe, H a = none → Zc cls d oe → (∃ vs, oe.data = .fields vs) → ts { nx := fun σ' H' => D.nx (σ'.set i none) H', rt := D.rt, bk := fun σ' H' => D.bk (σ'.set i none) H', ct := fun σ' H' => D.ct (σ'.set i none) H' } (σ.set i (some (.ref a))) (upd H a (PinO a oe))) ∧
    (b = false → Wout cls d σ H)
def tTryK (K : PySem.W.Frag) (c : Value) (i : Nat) (tb : WX → TS) (ts : TS) (Wout : WX) : TS := fun D σ H => tb (wAsK K c i ts Wout D) D σ H
variable {K : PySem.W.Frag} {D : Ends} {σ : L2.St} {H : Hp} {cls : Value} {d : Option Addr}
theorem x_tryK (h : tb (wAsK K c i ts Wout D) D σ H) : tTryK K c i tb ts Wout D σ H := h
theorem x_seqTK {u : TS} (h : tTryK K c i tb ts Wout { D with nx := u D } σ H) : tSeq (tTryK K c i tb ts Wout) u D σ H := h
end
/-! a def that is called in an except suite -/
section
open L2H
variable {X : Cx} {CX : CXT} {k : Nat} {f : Addr} {fd : FuncData} {ps : List Str} {sp : Sp} {E : L2.St → XK} {x : Str} {q pos : Pos} {e : Expr} {es : List Expr} {t : TA}
/-- isinstance(e, c), e an exception without fields that is tracked -/
def rIsV (K : PySem.W.Frag) : List V → Hp → VK → Prop := fun xs H Q => ∃ (a E : Addr) (c : V) (cv : Value) (b : Bool), xs = [.ref a, c] ∧ ExV H a (.ref E) none ∧ ExcC K E ∧ (∀ u, RelV c u → u = cv) ∧ PySem.W.kitOne K (.ref E) cv = some b ∧ Q (.bl b) H
variable {K : PySem.W.Frag} {H : Hp} {Q : VK} {a : Addr}
theorem _root_.L2.Room.suite {j k : Nat} {A : Around} {x : Option Value} (r : Room k A) (h : j ≤ k) : RoomH j (A.mark x) := ⟨(r.mono h).dp, (r.mono h).un⟩
theorem ExV.off1 {H H' : Hp} {a p : Addr} {cls : Value} {d : Option Addr} (s : Off [p] H H') (h : ExV H a cls d) (n : a ≠ p) : ExV H' a cls d := by
  obtain ⟨oe, e, r⟩ := h
  exact ⟨oe, s.at e (nin_of n), r⟩
theorem ExV.ne {H : Hp} {a p : Addr} {cls : Value} {d : Option Addr} (h : ExV H a cls d) (n : H p = none) : a ≠ p := by
  obtain ⟨oe, e, r⟩ := h
  exact ne_of_none e n
theorem x_isVC {E C : Addr} {b : Bool} (h : ExV H a (.ref E) none) (hE : ExcC K E) (hk : PySem.W.kitOne K (.ref E) (.ref C) = some b) (q : Q (.bl b) H) : rIsV K [.ref a, .ref C] H Q := ⟨a, E, _, .ref C, b, rfl, h, hE, fun _ z => z, hk, q⟩
theorem x_isVT {E : Addr} {t : String} {b : Bool} (h : ExV H a (.ref E) none) (hE : ExcC K E) (hk : PySem.W.kitOne K (.ref E) (.type t) = some b) (q : Q (.bl b) H) : rIsV K [.ref a, .ty t] H Q := ⟨a, E, _, .type t, b, rfl, h, hE, fun _ z => z, hk, q⟩
end
end Kit
/-! ### the head's facts, read by a Hook of one's own -/
namespace Kit
open PySem PySem.Spec PyProof.Rows L2
section
abbrev FnWK : Type := Bool × List He.FnW
/-- lists of numbers, a part of the heap: told when they are made -/
def frList {α : Type} : List Addr → (List Addr → α) → α
  | [], k => k []
  | a :: r, k => HandSHeadRun.frNat a fun a => frList r fun r => k (a :: r)
theorem frList_eq {α : Type} : ∀ (l : List Addr) (k : List Addr → α), frList l k = k l
  | [], _ => rfl
  | a :: r, k => by
    show HandSHeadRun.frNat a (fun a => frList r fun r => k (a :: r)) = _
    rw [HandSHeadRun.frNat_eq, frList_eq r]
def frFr {α : Type} (g : Addr → Option Obj) : List Addr → (PySem.W.Frag → α) → α
  | [], k => k []
  | a :: r, k => match g a with
    | some ⟨c, d, dt, sl⟩ => frFr g r fun F => k ((a, ⟨c, d, dt, sl⟩) :: F)
    | none => frFr g r k
theorem frFr_eq {α : Type} {g : Addr → Option Obj} : ∀ (l : List Addr) (k : PySem.W.Frag → α), frFr g l k = k (He.frG g l)
  | [], _ => rfl
  | a :: r, k => by
    unfold frFr He.frG
    rw [List.filterMap_cons]
    cases h : g a with
    | none => exact frFr_eq r k
    | some o =>
      obtain ⟨c, d, dt, sl⟩ := o
      exact frFr_eq r _
/-- a def: its place in the list of addresses, its text -/
structure DefK where
  i : Nat
  name : Str
  qual : Str
  params : Arguments
  body : List Stmt
  scope : Scope
  dfl : List He.Dv := []
def fnKW (K : PySem.W.Frag) (a : Addr) : He.FnW := match K.lookup a with
  | some ⟨_, _, .func fd, _⟩ => some (fd.name, fd.qualname, fd.params, fd.body, fd.scope, fd.globals, fd.closure, fd.builtins)
  | _ => none
def DefK.val (d : DefK) : He.FnW := some (d.name, d.qual, d.params, .stmts d.body, d.scope, mainGlobals, [], builtinsNs)
def DefK.dvs (K : PySem.W.Frag) (d : DefK) : List V := d.dfl.map (He.Dv.v K)
def DefK.ok (K : PySem.W.Frag) (A : List Addr) (d : DefK) : Bool := PySem.W.keepIn K (.ref (A.getD d.i 0)) && (match K.lookup (A.getD d.i 0) with
  | some ⟨_, _, .func fd, _⟩ => PySem.W.codeIn K fd.code d.qual && (He.dflB K fd.defaults (d.dvs K) && He.kwdB K fd.kwdefaults [])
  | _ => false)
theorem DefK.funD {K : PySem.W.Frag} {A : List Addr} {d : DefK} (e : fnKW K (A.getD d.i 0) = d.val) (c : d.ok K A = true) : ∃ fd, FunD K d.name d.qual d.params d.body d.scope (d.dvs K) [] (A.getD d.i 0) fd := by
  obtain ⟨kp, c2⟩ := He.ba c
  unfold fnKW at e
  cases q : K.lookup (A.getD d.i 0) with
  | none =>
    rw [q] at c2
    cases c2
  | some o =>
    obtain ⟨oc, od, dt, osl⟩ := o
    rw [q] at c2 e
    cases dt with
    | func fd =>
      obtain ⟨n1, n2, n3, n4, n5, n6, n7, n8, n9, n10, n11, n12, n13, n14, n15⟩ := fd
      have e2 : (some (n1, n2, n3, n4, n5, n6, n7, n15) : He.FnW) = some (d.name, d.qual, d.params, .stmts d.body, d.scope, mainGlobals, [], builtinsNs) := e
      simp only [Option.some.injEq, Prod.mk.injEq] at e2
      obtain ⟨h1, h2, h3, h4, h5, h6, h7, h8⟩ := e2
      subst h1 h2 h3 h4 h5 h6 h7 h8
      have c3 : (PySem.W.codeIn K n13 d.qual && (He.dflB K n8 (d.dvs K) && He.kwdB K n9 [])) = true := c2
      obtain ⟨k1, k2⟩ := He.ba c3
      obtain ⟨k3, k4⟩ := He.ba k2
      exact ⟨_, ⟨oc, od, n8, n9, n10, n11, n12, n13, n14, osl, rfl, q, k1, He.dflB_ok k3, He.kwdB_ok k4⟩, kp⟩
    | _ => cases c2
abbrev FsK : Type := PySem.W.Frag → List Addr → Bool
def obsK (fs : FsK) (fn : List DefK) (K : PySem.W.Frag) (A : List Addr) : FnWK := (fs K A && fn.all fun d => d.ok K A, fn.map fun d => fnKW K (A.getD d.i 0))
def valK (fn : List DefK) : FnWK := (true, fn.map DefK.val)
def SaysK (fs : FsK) (fn : List DefK) (K : PySem.W.Frag) (A : List Addr) : Prop := obsK fs fn K A = valK fn
def obsKG (ls : (Addr → Option Obj) → List Addr) (fs : FsK) (fn : List DefK) (g : Addr → Option Obj) : FnWK := frList (ls g) fun A => frFr g A fun K => obsK fs fn K A
theorem obsKG_is {ls : (Addr → Option Obj) → List Addr} {fs : FsK} {fn : List DefK} {g : Addr → Option Obj} : obsKG ls fs fn g = obsK fs fn (He.frG g (ls g)) (ls g) := by
  unfold obsKG
  rw [frList_eq, frFr_eq]
def hookK (ls : (Addr → Option Obj) → List Addr) (fs : FsK) (fn : List DefK) : PySem.W.Hook where
  α := FnWK
  obs := fun s => obsKG ls fs fn s.heap.get?
  val := fun _ => valK fn
  says := fun _ h => ∃ (K : PySem.W.Frag) (A : List Addr), K.In h ∧ SaysK fs fn K A
  of := fun _ _ e => ⟨_, _, He.frG_in, obsKG_is.symm.trans e⟩
  keeps := fun _ _ _ ⟨K, A, hK, c⟩ k => ⟨K, A, PySem.W.Frag.In.keeps hK k, c⟩
theorem obsKG_eq {ls : (Addr → Option Obj) → List Addr} {fs : FsK} {fn : List DefK} {g : Addr → Option Obj} {s : Shared} (h : ∀ a, g a = s.heap.get? a) : obsKG ls fs fn g = (hookK ls fs fn).obs s := by
  have e : g = s.heap.get? := funext h
  rw [e] <;> rfl
variable {fs : FsK} {fn : List DefK} {K : PySem.W.Frag} {A : List Addr}
theorem SaysK.facts (c : SaysK fs fn K A) : fs K A = true := (He.ba (show (fs K A && fn.all fun d => d.ok K A) = true from congrArg (fun z : FnWK => z.1) c)).1
theorem SaysK.def_ (c : SaysK fs fn K A) (i : Nat) {d : DefK} (h : fn[i]? = some d := by rfl) : ∃ fd, FunD K d.name d.qual d.params d.body d.scope (d.dvs K) [] (A.getD d.i 0) fd := by
  have c2 := (He.ba (show (fs K A && fn.all fun d => d.ok K A) = true from congrArg (fun z : FnWK => z.1) c)).2
  have e : fn.map (fun d => fnKW K (A.getD d.i 0)) = fn.map DefK.val := congrArg (fun z : FnWK => z.2) c
  have e2 : (fn.map fun d => fnKW K (A.getD d.i 0))[i]? = (fn.map DefK.val)[i]? := by rw [e]
  rw [List.getElem?_map, List.getElem?_map, h] at e2
  exact DefK.funD (Option.some.inj e2) (List.all_eq_true.mp c2 d (List.mem_of_getElem? h))
/-! addresses of the program's objects -/
def gK (g : Addr → Option Obj) (x : Str) : Addr := match PySem.W.nsIn (He.frG g [mainGlobals]) mainGlobals x with
  | some (some (.ref a)) => a
  | _ => 0
def nsK (g : Addr → Option Obj) (a : Addr) : Addr := match g a with
  | some ⟨_, _, .cls cd, _⟩ => cd.ns
  | _ => 0
def mK (g : Addr → Option Obj) (c m : Str) : Addr := match PySem.W.nsIn (He.frG g [nsK g (gK g c)]) (nsK g (gK g c)) m with
  | some (some (.ref a)) => a
  | _ => 0
def cdK (g : Addr → Option Obj) (a : Addr) : Addr := match g a with
  | some ⟨_, _, .func fd, _⟩ => (match fd.code with
    | .ref b => b
    | _ => 0)
  | _ => 0
def dfK (g : Addr → Option Obj) (a : Addr) : Addr := match g a with
  | some ⟨_, _, .func fd, _⟩ => (match fd.defaults with
    | .ref b => b
    | _ => 0)
  | _ => 0
/-- what a class finds, as one Bool -/
def fclB (o : Option PySem.W.CFound) (v : Value) : Bool := match o with
  | some (.val u) => decide (u = v)
  | _ => false
theorem fclB_ok {o : Option PySem.W.CFound} {v : Value} (h : fclB o v = true) : o = some (.val v) := by
  unfold fclB at h
  split at h
  · rw [of_decide_eq_true h]
  · cases h
theorem funK_of {x qual : Str} {st : Stmt} {f : Addr} {fd : FuncData} {kws : List (Str × V)} (F : FunD K x qual (defArgs st) (defBody st) (defScope st) [] kws f fd) : L2.Fun K x qual st f fd := by
  obtain ⟨oc, od, dV, kV, doc, pm, an, cdv, ct, osl, e, l, c, hd, _⟩ := F.ex
  rcases hd with ⟨_, e2⟩ | ⟨e2, _⟩
  · subst e2
    exact ⟨⟨oc, od, kV, doc, pm, an, cdv, ct, osl, e, l, c⟩, F.kp⟩
  · exact absurd rfl e2
/-- an exception class with an own __init__, as one Bool -/
def oexB (K : PySem.W.Frag) (C : Addr) : Bool := match K.lookup C with
  | some ⟨.type t, _, .cls cd, sl⟩ => decide (t = "type") && ((match cd.mro with
    | .ref D :: bm => decide (D = C) && PySem.HandSPX.refsVE bm
    | _ => false) && (cd.hasDict && (!cd.hasDel && (match sl.toList with
    | [_, _, _, _, some (.builtin s), _] => decide (s = "ValueError.__new__")
    | _ => false))))
  | _ => false
theorem oexB_ok {C : Addr} (h : oexB K C = true) : ∃ nm q N bs bm sn sub ab col dd k0 k1 k2 k3 k5, K.lookup C = some (excClassObj nm q C N bs bm true sn sub ab col dd k0 k1 k2 k3 k5 "ValueError.__new__") ∧ PySem.HandSPX.refsVE bm = true := by
  unfold oexB at h
  split at h
  · rename_i t dd cd sl hl
    obtain ⟨h1, h⟩ := He.ba h
    obtain ⟨h2, h⟩ := He.ba h
    obtain ⟨h3, h⟩ := He.ba h
    obtain ⟨h4, h5⟩ := He.ba h
    obtain rfl : t = "type" := of_decide_eq_true h1
    obtain ⟨nm, bs, mro, ns, q, hd, sn, sub, ab, col, hdel⟩ := cd
    dsimp only at h2 h3 h4
    cases mro with
    | nil => cases h2
    | cons v bm =>
      cases v with
      | ref D =>
        obtain ⟨h6, h7⟩ := He.ba h2
        obtain rfl : D = C := of_decide_eq_true h6
        subst h3
        have h4 : hdel = false := by cases hdel <;> first | rfl | cases h4
        subst h4
        split at h5
        · rename_i k0 k1 k2 k3 s k5 hs
          obtain rfl : s = "ValueError.__new__" := of_decide_eq_true h5
          refine ⟨nm, q, ns, bs, bm, sn, sub, ab, col, dd, k0, k1, k2, k3, k5, ?_, h7⟩
          rw [hl]
          have es : sl = #[k0, k1, k2, k3, some (.builtin "ValueError.__new__"), k5] := by
            cases sl
            exact congrArg Array.mk hs
          rw [es]
        · cases h5
      | _ => cases h2
  · cases h
/-- what a module's name stands for -/
def gvK (K : PySem.W.Frag) (x : Str) : Value := match PySem.W.nsIn K mainGlobals x with
  | some (some v) => v
  | _ => .none
theorem walk_ofW {l : PySem.W.OpenLaw} {n k : Nat} {q : Program} {loose : List Str} {XP : (Str → Option Value) → Heap → Prop} {YP : World → Heap → Prop} {d : DefRec} {CX : World → CXT} {x : Str}
    (hn : l.most = some n) (hn2 : n ≤ sizeLine) (hdf : d.params.defaults = []) (hr : Room k callerA)
    (F : ∀ (w : World) (mg : Str → Option Value) (fa : Addr) (h : Heap), YP w h → h.Ns mainGlobals mg → mg d.name = some (.ref fa) →
      ∃ (K : PySem.W.Frag) (fd : FuncData) (sp : Sp), K.In h ∧ (∀ (s : Shared) (u : Value), BindsTo s fd ⟨[u], []⟩ [(x, u)]) ∧
        (∀ (H : Hp) (a : Addr) (ns : List Int), ns.length ≤ n → Only H → SqL K H a (ns.map V.int) → sp [.ref a] H (fun v _ => v = .bl true) fun _ _ _ => False) ∧
        ∀ base : Heap, K.In base → base.Ns mainGlobals mg → FnOk l.prog w K mg base (CX w) k fa fd [x] sp)
    (hCX : ∀ (w : World) (H : Hp) (s : Shared) (e : Value) (s' : Shared), CX w [] H s (fun _ _ _ => False) e s' → False) :
    PySem.W.WalkO q loose XP YP l.row.toRowW d [] (fun f vs => PySem.call f vs) := by
  refine Att.attach_call hn hdf fun w s₀ s₁ mg mb fa o pm cd doc a vs ns G Y ho hd hcd hmg hobj hints hlen hg => ?_
  obtain ⟨K, fd, sp, KX, hb, hsp, hF⟩ := F w mg fa _ Y G.T.g hmg
  exact law_call KX G.T.g G.T.b G.T.builtins G.T.nolimit hg hobj hints (Nat.le_trans hlen hn2) hr hF hb (fun H hO hS => hsp H a ns hlen hO hS) fun H e s' => hCX w H s₁ e s'
end
/-! ### a list comprehension in a def that is called in an except suite (my own rule; the kit's asks for calm) -/
/-! ### a suite that raises: exceptions whose context is known (my own rules) -/
end Kit
namespace Kit
open PySem PySem.Spec PyProof.Rows L2 LamX
/-! ### a lambda that is kept, and called later -/
/-- a cell that holds a value that is known -/
def CellO (c : Addr) (v : V) : HO := .ext fun h => ∃ u, RelV v u ∧ h.IsCell c (some u)
abbrev Cap := Option (Str × Addr × V)
def capL : Cap → List (Str × Addr)
  | none => []
  | some (y, c, _) => [(y, c)]
def CapAt (H : Hp) : Cap → Prop
  | none => True
  | some (_, c, v) => H c = some (CellO c v)
def capA : Cap → List Addr
  | none => []
  | some (_, c, _) => [c]
/-- a lambda at f, its code object, what it has captured -/
def LamA (H : Hp) (f c' : Addr) (qual : Str) (params : Arguments) (body : Expr) (scope : Scope) (cap : Cap) : Prop :=
  (∃ pm ctv, H f = some (PinO f (PySem.W.kla_obj "<lambda>" qual params body scope (capL cap) pm c' ctv))) ∧ H c' = some (CodeO c' qual) ∧ CapAt H cap
theorem LamA.keep {H H' : Hp} {f c' : Addr} {qual : Str} {params : Arguments} {body : Expr} {scope : Scope} {cap : Cap} (h : LamA H f c' qual params body scope cap) (k : ∀ a ∈ f :: c' :: capA cap, ∀ o, H a = some o → H' a = some o) : LamA H' f c' qual params body scope cap := by
  obtain ⟨⟨pm, ctv, a⟩, b, c⟩ := h
  refine ⟨⟨pm, ctv, k f List.mem_cons_self _ a⟩, k c' (List.mem_cons_of_mem _ List.mem_cons_self) _ b, ?_⟩
  cases cap with
  | none => trivial
  | some x => exact k x.2.1 (by simp [capA]) _ c
/-! ### such a thing called by way of a field -/
/-! ### a def that hands out a lambda: its ends told with its names -/
/-! ### the head's facts with tables of code objects -/
end Kit
namespace My
open PySem L2 Kit
def top (i : Nat) : Stmt := PySem.Challenge.pw_wornpages_k31_a_new_store.main.body.getD i (.Pass ⟨0, 0, 0, 0⟩)
abbrev s_BlockFailed_init : Stmt := inClass (top 6) 0
abbrev N_BlockFailed_init : List Str := ["self", "block"]
theorem sc_BlockFailed_init : FnScope N_BlockFailed_init ["self", "block"] (defScope s_BlockFailed_init) := ⟨rfl, rfl, rfl, by decide +kernel, rfl, by decide +kernel, by decide +kernel⟩
abbrev s_NotClear_init : Stmt := inClass (top 7) 0
abbrev N_NotClear_init : List Str := ["self", "page"]
theorem sc_NotClear_init : FnScope N_NotClear_init ["self", "page"] (defScope s_NotClear_init) := ⟨rfl, rfl, rfl, by decide +kernel, rfl, by decide +kernel, by decide +kernel⟩
abbrev s_mark_of : Stmt := top 15
abbrev N_mark_of : List Str := ["stamp", "name"]
theorem sc_mark_of : FnScope N_mark_of ["stamp", "name"] (defScope s_mark_of) := ⟨rfl, rfl, rfl, by decide +kernel, rfl, by decide +kernel, by decide +kernel⟩
abbrev s_bits_of : Stmt := top 16
abbrev N_bits_of : List Str := ["sheets", "bits", "sheet"]
theorem sc_bits_of : FnScope N_bits_of ["sheets"] (defScope s_bits_of) := ⟨rfl, rfl, rfl, by decide +kernel, rfl, by decide +kernel, by decide +kernel⟩
abbrev s_Book_init : Stmt := inClass (top 18) 0
abbrev N_Book_init : List Str := ["self", "blocks", "pages"]
theorem sc_Book_init : FnScope N_Book_init ["self", "blocks", "pages"] (defScope s_Book_init) := ⟨rfl, rfl, rfl, by decide +kernel, rfl, by decide +kernel, by decide +kernel⟩
abbrev s_Book_mark : Stmt := inClass (top 18) 2
abbrev N_Book_mark : List Str := ["self", "name"]
theorem sc_Book_mark : FnScope N_Book_mark ["self", "name"] (defScope s_Book_mark) := ⟨rfl, rfl, rfl, by decide +kernel, rfl, by decide +kernel, by decide +kernel⟩
abbrev s_Book_note : Stmt := inClass (top 18) 3
abbrev N_Book_note : List Str := ["self", "page", "name", "block"]
theorem sc_Book_note : FnScope N_Book_note ["self", "page", "name"] (defScope s_Book_note) := ⟨rfl, rfl, rfl, by decide +kernel, rfl, by decide +kernel, by decide +kernel⟩
abbrev s_Book_forget : Stmt := inClass (top 18) 4
abbrev N_Book_forget : List Str := ["self", "name", "page"]
theorem sc_Book_forget : FnScope N_Book_forget ["self", "name"] (defScope s_Book_forget) := ⟨rfl, rfl, rfl, by decide +kernel, rfl, by decide +kernel, by decide +kernel⟩
abbrev s_Book_emptied : Stmt := inClass (top 18) 5
abbrev N_Book_emptied : List Str := ["self", "block"]
theorem sc_Book_emptied : FnScope N_Book_emptied ["self", "block"] (defScope s_Book_emptied) := ⟨rfl, rfl, rfl, by decide +kernel, rfl, by decide +kernel, by decide +kernel⟩
abbrev s_Book_live_pages : Stmt := inClass (top 18) 6
abbrev N_Book_live_pages : List Str := ["self", "block", "first", "found", "page"]
theorem sc_Book_live_pages : FnScope N_Book_live_pages ["self", "block"] (defScope s_Book_live_pages) := ⟨rfl, rfl, rfl, by decide +kernel, rfl, by decide +kernel, by decide +kernel⟩
abbrev s_Book_held : Stmt := inClass (top 18) 7
abbrev N_Book_held : List Str := ["self", "name"]
theorem sc_Book_held : FnScope N_Book_held ["self"] (defScope s_Book_held) := ⟨rfl, rfl, rfl, by decide +kernel, rfl, by decide +kernel, by decide +kernel⟩
abbrev s_Book_tell : Stmt := inClass (top 18) 8
abbrev s_is_whole : Stmt := top 20
abbrev N_is_whole : List Str := ["thing"]
theorem sc_is_whole : FnScope N_is_whole ["thing"] (defScope s_is_whole) := ⟨rfl, rfl, rfl, by decide +kernel, rfl, by decide +kernel, by decide +kernel⟩
abbrev s_is_within : Stmt := top 21
abbrev N_is_within : List Str := ["thing", "low", "high"]
theorem sc_is_within : FnScope N_is_within ["thing", "low", "high"] (defScope s_is_within) := ⟨rfl, rfl, rfl, by decide +kernel, rfl, by decide +kernel, by decide +kernel⟩
abbrev s_Plain_init : Stmt := inClass (top 23) 0
abbrev N_Plain_init : List Str := ["self", "chip", "terms"]
theorem sc_Plain_init : FnScope N_Plain_init ["self", "chip", "terms"] (defScope s_Plain_init) := ⟨rfl, rfl, rfl, by decide +kernel, rfl, by decide +kernel, by decide +kernel⟩
abbrev s_Plain_good : Stmt := inClass (top 23) 1
abbrev N_Plain_good : List Str := ["self", "block"]
theorem sc_Plain_good : FnScope N_Plain_good ["self"] (defScope s_Plain_good) := ⟨rfl, rfl, rfl, by decide +kernel, rfl, by decide +kernel, by decide +kernel⟩
abbrev s_Plain_free : Stmt := inClass (top 23) 2
abbrev N_Plain_free : List Str := ["self", "found", "block", "times"]
theorem sc_Plain_free : FnScope N_Plain_free ["self"] (defScope s_Plain_free) := ⟨rfl, rfl, rfl, by decide +kernel, rfl, by decide +kernel, by decide +kernel⟩
abbrev s_Plain_part : Stmt := inClass (top 23) 3
abbrev N_Plain_part : List Str := ["self", "block"]
theorem sc_Plain_part : FnScope N_Plain_part ["self"] (defScope s_Plain_part) := ⟨rfl, rfl, rfl, by decide +kernel, rfl, by decide +kernel, by decide +kernel⟩
abbrev s_Plain_spot : Stmt := inClass (top 23) 4
abbrev N_Plain_spot : List Str := ["self", "block", "some"]
theorem sc_Plain_spot : FnScope N_Plain_spot ["self"] (defScope s_Plain_spot) := ⟨rfl, rfl, rfl, by decide +kernel, rfl, by decide +kernel, by decide +kernel⟩
abbrev s_Plain_reserve : Stmt := inClass (top 23) 5
abbrev N_Plain_reserve : List Str := ["self"]
theorem sc_Plain_reserve : FnScope N_Plain_reserve ["self"] (defScope s_Plain_reserve) := ⟨rfl, rfl, rfl, by decide +kernel, rfl, by decide +kernel, by decide +kernel⟩
abbrev s_Plain_ready : Stmt := inClass (top 23) 6
abbrev N_Plain_ready : List Str := ["self", "many"]
theorem sc_Plain_ready : FnScope N_Plain_ready ["self"] (defScope s_Plain_ready) := ⟨rfl, rfl, rfl, by decide +kernel, rfl, by decide +kernel, by decide +kernel⟩
abbrev s_Plain_make_ready : Stmt := inClass (top 23) 7
abbrev N_Plain_make_ready : List Str := ["self"]
theorem sc_Plain_make_ready : FnScope N_Plain_make_ready ["self"] (defScope s_Plain_make_ready) := ⟨rfl, rfl, rfl, by decide +kernel, rfl, by decide +kernel, by decide +kernel⟩
abbrev s_Plain_set_down : Stmt := inClass (top 23) 8
abbrev N_Plain_set_down : List Str := ["self", "name", "value", "page"]
theorem sc_Plain_set_down : FnScope N_Plain_set_down ["self", "name", "value"] (defScope s_Plain_set_down) := ⟨rfl, rfl, rfl, by decide +kernel, rfl, by decide +kernel, by decide +kernel⟩
abbrev s_Plain_lay : Stmt := inClass (top 23) 9
abbrev N_Plain_lay : List Str := ["self", "name", "value"]
theorem sc_Plain_lay : FnScope N_Plain_lay ["self", "name", "value"] (defScope s_Plain_lay) := ⟨rfl, rfl, rfl, by decide +kernel, rfl, by decide +kernel, by decide +kernel⟩
abbrev s_Plain_need_sheet : Stmt := inClass (top 23) 10
abbrev N_Plain_need_sheet : List Str := ["self", "sheet"]
theorem sc_Plain_need_sheet : FnScope N_Plain_need_sheet ["self", "sheet"] (defScope s_Plain_need_sheet) := ⟨rfl, rfl, rfl, by decide +kernel, rfl, by decide +kernel, by decide +kernel⟩
abbrev s_Plain_write : Stmt := inClass (top 23) 11
abbrev N_Plain_write : List Str := ["self", "sheet", "value"]
theorem sc_Plain_write : FnScope N_Plain_write ["self", "sheet", "value"] (defScope s_Plain_write) := ⟨rfl, rfl, rfl, by decide +kernel, rfl, by decide +kernel, by decide +kernel⟩
abbrev s_Plain_read : Stmt := inClass (top 23) 13
abbrev s_Plain_held : Stmt := inClass (top 23) 14
abbrev N_Plain_held : List Str := ["self"]
theorem sc_Plain_held : FnScope N_Plain_held ["self"] (defScope s_Plain_held) := ⟨rfl, rfl, rfl, by decide +kernel, rfl, by decide +kernel, by decide +kernel⟩
abbrev s_Store_init : Stmt := inClass (top 25) 0
abbrev N_Store_init : List Str := ["self", "chip", "terms", "rule"]
theorem sc_Store_init : FnScope N_Store_init ["self", "chip", "terms", "rule"] (defScope s_Store_init) := ⟨rfl, rfl, rfl, by decide +kernel, rfl, by decide +kernel, by decide +kernel⟩
abbrev s_Store_take : Stmt := inClass (top 25) 1
abbrev N_Store_take : List Str := ["self", "rule"]
theorem sc_Store_take : FnScope N_Store_take ["self", "rule"] (defScope s_Store_take) := ⟨rfl, rfl, rfl, by decide +kernel, rfl, by decide +kernel, by decide +kernel⟩
abbrev s_Store_reserve : Stmt := inClass (top 25) 2
abbrev N_Store_reserve : List Str := ["self"]
theorem sc_Store_reserve : FnScope N_Store_reserve ["self"] (defScope s_Store_reserve) := ⟨rfl, rfl, rfl, by decide +kernel, rfl, by decide +kernel, by decide +kernel⟩
abbrev s_Store_space : Stmt := inClass (top 25) 3
abbrev N_Store_space : List Str := ["self", "part"]
theorem sc_Store_space : FnScope N_Store_space ["self"] (defScope s_Store_space) := ⟨rfl, rfl, rfl, by decide +kernel, rfl, by decide +kernel, by decide +kernel⟩
abbrev s_Store_tally : Stmt := inClass (top 25) 4
abbrev N_Store_tally : List Str := ["self", "block"]
theorem sc_Store_tally : FnScope N_Store_tally ["self", "block"] (defScope s_Store_tally) := ⟨rfl, rfl, rfl, by decide +kernel, rfl, by decide +kernel, by decide +kernel⟩
abbrev s_Store_full_ones : Stmt := inClass (top 25) 5
abbrev N_Store_full_ones : List Str := ["self", "space", "found", "block"]
theorem sc_Store_full_ones : FnScope N_Store_full_ones ["self"] (defScope s_Store_full_ones) := ⟨rfl, rfl, rfl, by decide +kernel, rfl, by decide +kernel, by decide +kernel⟩
abbrev s_Store_options : Stmt := inClass (top 25) 6
abbrev N_Store_options : List Str := ["self", "tally"]
theorem sc_Store_options : FnScope N_Store_options ["self"] (defScope s_Store_options) := ⟨rfl, rfl, rfl, by decide +kernel, rfl, by decide +kernel, by decide +kernel⟩
abbrev s_Store_otherwise : Stmt := inClass (top 25) 7
abbrev N_Store_otherwise : List Str := ["self"]
theorem sc_Store_otherwise : FnScope N_Store_otherwise ["self"] (defScope s_Store_otherwise) := ⟨rfl, rfl, rfl, by decide +kernel, rfl, by decide +kernel, by decide +kernel⟩
abbrev s_Store_choice : Stmt := inClass (top 25) 8
abbrev N_Store_choice : List Str := ["self", "some"]
theorem sc_Store_choice : FnScope N_Store_choice ["self"] (defScope s_Store_choice) := ⟨rfl, rfl, rfl, by decide +kernel, rfl, by decide +kernel, by decide +kernel⟩
abbrev s_Store_value_for : Stmt := inClass (top 25) 9
abbrev N_Store_value_for : List Str := ["self", "page", "name"]
theorem sc_Store_value_for : FnScope N_Store_value_for ["self", "page", "name"] (defScope s_Store_value_for) := ⟨rfl, rfl, rfl, by decide +kernel, rfl, by decide +kernel, by decide +kernel⟩
abbrev s_Store_moved : Stmt := inClass (top 25) 10
abbrev N_Store_moved : List Str := ["self", "block", "found", "page", "name"]
theorem sc_Store_moved : FnScope N_Store_moved ["self", "block"] (defScope s_Store_moved) := ⟨rfl, rfl, rfl, by decide +kernel, rfl, by decide +kernel, by decide +kernel⟩
abbrev s_Store_wiped : Stmt := inClass (top 25) 11
abbrev N_Store_wiped : List Str := ["self", "block"]
theorem sc_Store_wiped : FnScope N_Store_wiped ["self", "block"] (defScope s_Store_wiped) := ⟨rfl, rfl, rfl, by decide +kernel, rfl, by decide +kernel, by decide +kernel⟩
abbrev s_Store_make_room : Stmt := inClass (top 25) 12
abbrev N_Store_make_room : List Str := ["self", "some", "why", "block", "moves", "well"]
theorem sc_Store_make_room : FnScope N_Store_make_room ["self"] (defScope s_Store_make_room) := ⟨rfl, rfl, rfl, by decide +kernel, rfl, by decide +kernel, by decide +kernel⟩
abbrev s_Store_make_ready : Stmt := inClass (top 25) 13
abbrev N_Store_make_ready : List Str := ["self"]
theorem sc_Store_make_ready : FnScope N_Store_make_ready ["self"] (defScope s_Store_make_ready) := ⟨rfl, rfl, rfl, by decide +kernel, rfl, by decide +kernel, by decide +kernel⟩
abbrev s_endurance : Stmt := top 29
abbrev N_endurance : List Str := ["blocks", "ills", "found", "block", "good"]
theorem sc_endurance : FnScope N_endurance ["blocks", "ills"] (defScope s_endurance) := ⟨rfl, rfl, rfl, by decide +kernel, rfl, by decide +kernel, by decide +kernel⟩
abbrev s_Chip_init : Stmt := inClass (top 30) 0
abbrev N_Chip_init : List Str := ["self", "blocks", "pages", "most", "ills"]
abbrev dfl_Chip_init : List V := [V.int (1000000), V.non]
theorem sc_Chip_init : FnScope N_Chip_init ["self", "blocks", "pages", "most", "ills"] (defScope s_Chip_init) := ⟨rfl, rfl, rfl, by decide +kernel, rfl, by decide +kernel, by decide +kernel⟩
abbrev s_Chip_need_page : Stmt := inClass (top 30) 1
abbrev N_Chip_need_page : List Str := ["self", "page"]
theorem sc_Chip_need_page : FnScope N_Chip_need_page ["self", "page"] (defScope s_Chip_need_page) := ⟨rfl, rfl, rfl, by decide +kernel, rfl, by decide +kernel, by decide +kernel⟩
abbrev s_Chip_need_block : Stmt := inClass (top 30) 2
abbrev N_Chip_need_block : List Str := ["self", "block"]
theorem sc_Chip_need_block : FnScope N_Chip_need_block ["self", "block"] (defScope s_Chip_need_block) := ⟨rfl, rfl, rfl, by decide +kernel, rfl, by decide +kernel, by decide +kernel⟩
abbrev s_Chip_need_power : Stmt := inClass (top 30) 3
abbrev N_Chip_need_power : List Str := ["self"]
theorem sc_Chip_need_power : FnScope N_Chip_need_power ["self"] (defScope s_Chip_need_power) := ⟨rfl, rfl, rfl, by decide +kernel, rfl, by decide +kernel, by decide +kernel⟩
abbrev s_Chip_need_good : Stmt := inClass (top 30) 4
abbrev N_Chip_need_good : List Str := ["self", "block"]
theorem sc_Chip_need_good : FnScope N_Chip_need_good ["self", "block"] (defScope s_Chip_need_good) := ⟨rfl, rfl, rfl, by decide +kernel, rfl, by decide +kernel, by decide +kernel⟩
abbrev s_Chip_goes_well : Stmt := inClass (top 30) 5
abbrev N_Chip_goes_well : List Str := ["self", "block", "worn", "well"]
theorem sc_Chip_goes_well : FnScope N_Chip_goes_well ["self", "block", "worn"] (defScope s_Chip_goes_well) := ⟨rfl, rfl, rfl, by decide +kernel, rfl, by decide +kernel, by decide +kernel⟩
abbrev s_Chip_put : Stmt := inClass (top 30) 6
abbrev N_Chip_put : List Str := ["self", "page", "stuff", "block", "well"]
theorem sc_Chip_put : FnScope N_Chip_put ["self", "page", "stuff"] (defScope s_Chip_put) := ⟨rfl, rfl, rfl, by decide +kernel, rfl, by decide +kernel, by decide +kernel⟩
abbrev s_Chip_wipe : Stmt := inClass (top 30) 7
abbrev N_Chip_wipe : List Str := ["self", "block", "well", "place"]
theorem sc_Chip_wipe : FnScope N_Chip_wipe ["self", "block"] (defScope s_Chip_wipe) := ⟨rfl, rfl, rfl, by decide +kernel, rfl, by decide +kernel, by decide +kernel⟩
abbrev s_Chip_read : Stmt := inClass (top 30) 8
abbrev N_Chip_read : List Str := ["self", "page"]
theorem sc_Chip_read : FnScope N_Chip_read ["self", "page"] (defScope s_Chip_read) := ⟨rfl, rfl, rfl, by decide +kernel, rfl, by decide +kernel, by decide +kernel⟩
abbrev s_Chip_is_dark : Stmt := inClass (top 30) 11
abbrev N_Chip_is_dark : List Str := ["self"]
theorem sc_Chip_is_dark : FnScope N_Chip_is_dark ["self"] (defScope s_Chip_is_dark) := ⟨rfl, rfl, rfl, by decide +kernel, rfl, by decide +kernel, by decide +kernel⟩
abbrev s_Chip_cleared : Stmt := inClass (top 30) 12
abbrev N_Chip_cleared : List Str := ["self", "block"]
theorem sc_Chip_cleared : FnScope N_Chip_cleared ["self", "block"] (defScope s_Chip_cleared) := ⟨rfl, rfl, rfl, by decide +kernel, rfl, by decide +kernel, by decide +kernel⟩
abbrev s_Chip_failed : Stmt := inClass (top 30) 13
abbrev N_Chip_failed : List Str := ["self", "block"]
theorem sc_Chip_failed : FnScope N_Chip_failed ["self", "block"] (defScope s_Chip_failed) := ⟨rfl, rfl, rfl, by decide +kernel, rfl, by decide +kernel, by decide +kernel⟩
abbrev s_Chip_deeds : Stmt := inClass (top 30) 14
abbrev N_Chip_deeds : List Str := ["self"]
theorem sc_Chip_deeds : FnScope N_Chip_deeds ["self"] (defScope s_Chip_deeds) := ⟨rfl, rfl, rfl, by decide +kernel, rfl, by decide +kernel, by decide +kernel⟩
abbrev s_Rule_goes_ahead : Stmt := inClass (top 32) 0
abbrev s_Rule_choose : Stmt := inClass (top 32) 1
abbrev N_Rule_choose : List Str := ["self", "tallies", "pages", "now", "best", "tally"]
theorem sc_Rule_choose : FnScope N_Rule_choose ["self", "tallies", "pages", "now"] (defScope s_Rule_choose) := ⟨rfl, rfl, rfl, by decide +kernel, rfl, by decide +kernel, by decide +kernel⟩
abbrev s_Fewest_goes_ahead : Stmt := inClass (top 33) 0
abbrev N_Fewest_goes_ahead : List Str := ["self", "one", "other", "pages", "now"]
theorem sc_Fewest_goes_ahead : FnScope N_Fewest_goes_ahead ["self", "one", "other", "pages", "now"] (defScope s_Fewest_goes_ahead) := ⟨rfl, rfl, rfl, by decide +kernel, rfl, by decide +kernel, by decide +kernel⟩
abbrev s_Eldest_goes_ahead : Stmt := inClass (top 34) 0
abbrev N_Eldest_goes_ahead : List Str := ["self", "one", "other", "pages", "now"]
theorem sc_Eldest_goes_ahead : FnScope N_Eldest_goes_ahead ["self", "one", "other", "pages", "now"] (defScope s_Eldest_goes_ahead) := ⟨rfl, rfl, rfl, by decide +kernel, rfl, by decide +kernel, by decide +kernel⟩
abbrev s_Terms_init : Stmt := inClass (top 36) 0
abbrev N_Terms_init : List Str := ["self", "blocks", "pages", "sheets", "share", "ill", "spread"]
abbrev dfl_Terms_init : List V := [V.int (0), V.int (1000000)]
theorem sc_Terms_init : FnScope N_Terms_init ["self", "blocks", "pages", "sheets", "share", "ill", "spread"] (defScope s_Terms_init) := ⟨rfl, rfl, rfl, by decide +kernel, rfl, by decide +kernel, by decide +kernel⟩
abbrev s_Terms_closed : Stmt := inClass (top 36) 1
abbrev N_Terms_closed : List Str := ["self"]
theorem sc_Terms_closed : FnScope N_Terms_closed ["self"] (defScope s_Terms_closed) := ⟨rfl, rfl, rfl, by decide +kernel, rfl, by decide +kernel, by decide +kernel⟩
abbrev s__law_cell_at : Stmt := top 38
abbrev N__law_cell_at : List Str := ["_law_script", "_law_k"]
theorem sc__law_cell_at : FnScope N__law_cell_at ["_law_script", "_law_k"] (defScope s__law_cell_at) := ⟨rfl, rfl, rfl, by decide +kernel, rfl, by decide +kernel, by decide +kernel⟩
abbrev s__law_whole : Stmt := top 39
abbrev N__law_whole : List Str := ["_law_found"]
theorem sc__law_whole : FnScope N__law_whole ["_law_found"] (defScope s__law_whole) := ⟨rfl, rfl, rfl, by decide +kernel, rfl, by decide +kernel, by decide +kernel⟩
abbrev s__law_size : Stmt := top 40
abbrev N__law_size : List Str := ["_law_script", "_law_pages", "_law_closed", "_law_ill", "_law_share"]
theorem sc__law_size : FnScope N__law_size ["_law_script"] (defScope s__law_size) := ⟨rfl, rfl, rfl, by decide +kernel, rfl, by decide +kernel, by decide +kernel⟩
abbrev s__law_tally : Stmt := top 41
abbrev N__law_tally : List Str := ["_law_block", "_law_pages", "_law_many", "_law_written", "_law_born"]
theorem sc__law_tally : FnScope N__law_tally ["_law_block", "_law_pages", "_law_many"] (defScope s__law_tally) := ⟨rfl, rfl, rfl, by decide +kernel, rfl, by decide +kernel, by decide +kernel⟩
abbrev s__law_alike : Stmt := top 42
abbrev N__law_alike : List Str := ["_law_found", "_law_due", "_law_number"]
theorem sc__law_alike : FnScope N__law_alike ["_law_found", "_law_due"] (defScope s__law_alike) := ⟨rfl, rfl, rfl, by decide +kernel, rfl, by decide +kernel, by decide +kernel⟩
abbrev s__law_rows : Stmt := top 43
abbrev N__law_rows : List Str := ["_law_found", "_law_due", "_law_one", "_law_other"]
theorem sc__law_rows : FnScope N__law_rows ["_law_found", "_law_due"] (defScope s__law_rows) := ⟨rfl, rfl, rfl, by decide +kernel, rfl, by decide +kernel, by decide +kernel⟩
abbrev s__law_refused : Stmt := top 44
abbrev N__law_refused : List Str := ["_law_store", "_law_refused_here", "e"]
theorem sc__law_refused : FnScope N__law_refused ["_law_store"] (defScope s__law_refused) := ⟨rfl, rfl, rfl, by decide +kernel, rfl, by decide +kernel, by decide +kernel⟩
abbrev s_law : Stmt := top 45
abbrev N_law : List Str := ["_law_script", "_law_blocks", "_law_pages", "_law_share", "_law_ill", "_law_chip", "_law_store", "_law_many", "_law_step", "_law_k", "_law_page", "_law_due", "_law_block", "_law_found"]
theorem sc_law : FnScope N_law ["_law_script"] (defScope s_law) := ⟨rfl, rfl, rfl, by decide +kernel, rfl, by decide +kernel, by decide +kernel⟩
def fsK0 (K : PySem.W.Frag) (A : List Addr) : Bool := decide (PySem.W.nsIn K mainGlobals "mark_of" = some (some (.ref (A.getD 42 0)))) && (decide (PySem.W.nsIn K mainGlobals "bits_of" = some (some (.ref (A.getD 43 0)))) && (decide (PySem.W.nsIn K mainGlobals "is_whole" = some (some (.ref (A.getD 52 0)))) && (decide (PySem.W.nsIn K mainGlobals "is_within" = some (some (.ref (A.getD 53 0)))) && (decide (PySem.W.nsIn K mainGlobals "endurance" = some (some (.ref (A.getD 82 0)))) && (decide (PySem.W.nsIn K mainGlobals "_law_cell_at" = some (some (.ref (A.getD 102 0)))) && (decide (PySem.W.nsIn K mainGlobals "_law_whole" = some (some (.ref (A.getD 103 0)))) && (decide (PySem.W.nsIn K mainGlobals "_law_size" = some (some (.ref (A.getD 104 0)))) && (decide (PySem.W.nsIn K mainGlobals "_law_tally" = some (some (.ref (A.getD 105 0)))) && (decide (PySem.W.nsIn K mainGlobals "_law_alike" = some (some (.ref (A.getD 106 0)))) && (decide (PySem.W.nsIn K mainGlobals "_law_rows" = some (some (.ref (A.getD 107 0)))) && (decide (PySem.W.nsIn K mainGlobals "_law_refused" = some (some (.ref (A.getD 108 0)))) && (decide (PySem.W.nsIn K mainGlobals "law" = some (some (.ref (A.getD 109 0)))) && (decide (PySem.W.nsIn K mainGlobals "Book" = some (some (.ref (A.getD 2 0)))) && (PySem.W.plainGet K (A.getD 2 0) Str.empty && (PySem.W.hasDictIn K (A.getD 2 0) && (PySem.W.plainOver K (A.getD 2 0) && (decide (PySem.W.findIn K (.ref (A.getD 2 0)) "__setattr__" = some (some (.builtin "object.__setattr__"))) && (decide (PySem.W.findIn K (.ref (A.getD 2 0)) "blocks" = some none) && (decide (PySem.W.findIn K (.ref (A.getD 2 0)) "pages" = some none) && (decide (PySem.W.findIn K (.ref (A.getD 2 0)) "where" = some none) && (decide (PySem.W.findIn K (.ref (A.getD 2 0)) "names" = some none) && (decide (PySem.W.findIn K (.ref (A.getD 2 0)) "live" = some none) && (decide (PySem.W.findIn K (.ref (A.getD 2 0)) "filled" = some none) && (decide (PySem.W.findIn K (.ref (A.getD 2 0)) "born" = some none)))))))))))))))))))))))))
theorem fsK0_ok {K : PySem.W.Frag} {A : List Addr} (h : fsK0 K A = true) : (PySem.W.nsIn K mainGlobals "mark_of" = some (some (.ref (A.getD 42 0)))) ∧ (PySem.W.nsIn K mainGlobals "bits_of" = some (some (.ref (A.getD 43 0)))) ∧ (PySem.W.nsIn K mainGlobals "is_whole" = some (some (.ref (A.getD 52 0)))) ∧ (PySem.W.nsIn K mainGlobals "is_within" = some (some (.ref (A.getD 53 0)))) ∧ (PySem.W.nsIn K mainGlobals "endurance" = some (some (.ref (A.getD 82 0)))) ∧ (PySem.W.nsIn K mainGlobals "_law_cell_at" = some (some (.ref (A.getD 102 0)))) ∧ (PySem.W.nsIn K mainGlobals "_law_whole" = some (some (.ref (A.getD 103 0)))) ∧ (PySem.W.nsIn K mainGlobals "_law_size" = some (some (.ref (A.getD 104 0)))) ∧ (PySem.W.nsIn K mainGlobals "_law_tally" = some (some (.ref (A.getD 105 0)))) ∧ (PySem.W.nsIn K mainGlobals "_law_alike" = some (some (.ref (A.getD 106 0)))) ∧ (PySem.W.nsIn K mainGlobals "_law_rows" = some (some (.ref (A.getD 107 0)))) ∧ (PySem.W.nsIn K mainGlobals "_law_refused" = some (some (.ref (A.getD 108 0)))) ∧ (PySem.W.nsIn K mainGlobals "law" = some (some (.ref (A.getD 109 0)))) ∧ (PySem.W.nsIn K mainGlobals "Book" = some (some (.ref (A.getD 2 0)))) ∧ (PySem.W.plainGet K (A.getD 2 0) Str.empty = true) ∧ (PySem.W.hasDictIn K (A.getD 2 0) = true) ∧ (PySem.W.plainOver K (A.getD 2 0) = true) ∧ (PySem.W.findIn K (.ref (A.getD 2 0)) "__setattr__" = some (some (.builtin "object.__setattr__"))) ∧ (PySem.W.findIn K (.ref (A.getD 2 0)) "blocks" = some none) ∧ (PySem.W.findIn K (.ref (A.getD 2 0)) "pages" = some none) ∧ (PySem.W.findIn K (.ref (A.getD 2 0)) "where" = some none) ∧ (PySem.W.findIn K (.ref (A.getD 2 0)) "names" = some none) ∧ (PySem.W.findIn K (.ref (A.getD 2 0)) "live" = some none) ∧ (PySem.W.findIn K (.ref (A.getD 2 0)) "filled" = some none) ∧ (PySem.W.findIn K (.ref (A.getD 2 0)) "born" = some none) := by
  unfold fsK0 at h
  obtain ⟨h0, h⟩ := He.ba h
  obtain ⟨h1, h⟩ := He.ba h
  obtain ⟨h2, h⟩ := He.ba h
  obtain ⟨h3, h⟩ := He.ba h
  obtain ⟨h4, h⟩ := He.ba h
  obtain ⟨h5, h⟩ := He.ba h
  obtain ⟨h6, h⟩ := He.ba h
  obtain ⟨h7, h⟩ := He.ba h
  obtain ⟨h8, h⟩ := He.ba h
  obtain ⟨h9, h⟩ := He.ba h
  obtain ⟨h10, h⟩ := He.ba h
  obtain ⟨h11, h⟩ := He.ba h
  obtain ⟨h12, h⟩ := He.ba h
  obtain ⟨h13, h⟩ := He.ba h
  obtain ⟨h14, h⟩ := He.ba h
  obtain ⟨h15, h⟩ := He.ba h
  obtain ⟨h16, h⟩ := He.ba h
  obtain ⟨h17, h⟩ := He.ba h
  obtain ⟨h18, h⟩ := He.ba h
  obtain ⟨h19, h⟩ := He.ba h
  obtain ⟨h20, h⟩ := He.ba h
  obtain ⟨h21, h⟩ := He.ba h
  obtain ⟨h22, h⟩ := He.ba h
  obtain ⟨h23, h⟩ := He.ba h
  exact ⟨of_decide_eq_true h0, of_decide_eq_true h1, of_decide_eq_true h2, of_decide_eq_true h3, of_decide_eq_true h4, of_decide_eq_true h5, of_decide_eq_true h6, of_decide_eq_true h7, of_decide_eq_true h8, of_decide_eq_true h9, of_decide_eq_true h10, of_decide_eq_true h11, of_decide_eq_true h12, of_decide_eq_true h13, h14, h15, h16, of_decide_eq_true h17, of_decide_eq_true h18, of_decide_eq_true h19, of_decide_eq_true h20, of_decide_eq_true h21, of_decide_eq_true h22, of_decide_eq_true h23, of_decide_eq_true h⟩
def fsK1 (K : PySem.W.Frag) (A : List Addr) : Bool := decide (PySem.W.findIn K (.ref (A.getD 2 0)) "stamp" = some none) && (decide (PySem.W.findIn K (.ref (A.getD 2 0)) "__init__" = some (some (.ref (A.getD 44 0)))) && (PySem.W.isFn K (.ref (A.getD 44 0)) && (PySem.W.makesIn K (A.getD 2 0) && (PySem.W.keepIn K (.ref (A.getD 2 0)) && (decide (PySem.W.findIn K (.ref (A.getD 2 0)) "mark" = some (some (.ref (A.getD 45 0)))) && (PySem.W.isFn K (.ref (A.getD 45 0)) && (decide (PySem.W.findIn K (.ref (A.getD 2 0)) "note" = some (some (.ref (A.getD 46 0)))) && (PySem.W.isFn K (.ref (A.getD 46 0)) && (decide (PySem.W.findIn K (.ref (A.getD 2 0)) "forget" = some (some (.ref (A.getD 47 0)))) && (PySem.W.isFn K (.ref (A.getD 47 0)) && (decide (PySem.W.findIn K (.ref (A.getD 2 0)) "emptied" = some (some (.ref (A.getD 48 0)))) && (PySem.W.isFn K (.ref (A.getD 48 0)) && (decide (PySem.W.findIn K (.ref (A.getD 2 0)) "live_pages" = some (some (.ref (A.getD 49 0)))) && (PySem.W.isFn K (.ref (A.getD 49 0)) && (decide (PySem.W.findIn K (.ref (A.getD 2 0)) "held" = some (some (.ref (A.getD 50 0)))) && (PySem.W.isFn K (.ref (A.getD 50 0)) && (decide (PySem.W.findIn K (.ref (A.getD 2 0)) "tell" = some (some (.ref (A.getD 51 0)))) && (PySem.W.isFn K (.ref (A.getD 51 0)) && (decide (PySem.W.nsIn K mainGlobals "Plain" = some (some (.ref (A.getD 3 0)))) && (PySem.W.plainGet K (A.getD 3 0) Str.empty && (PySem.W.hasDictIn K (A.getD 3 0) && (PySem.W.plainOver K (A.getD 3 0) && (decide (PySem.W.findIn K (.ref (A.getD 3 0)) "__setattr__" = some (some (.builtin "object.__setattr__"))) && (decide (PySem.W.findIn K (.ref (A.getD 3 0)) "chip" = some none)))))))))))))))))))))))))
theorem fsK1_ok {K : PySem.W.Frag} {A : List Addr} (h : fsK1 K A = true) : (PySem.W.findIn K (.ref (A.getD 2 0)) "stamp" = some none) ∧ (PySem.W.findIn K (.ref (A.getD 2 0)) "__init__" = some (some (.ref (A.getD 44 0)))) ∧ (PySem.W.isFn K (.ref (A.getD 44 0)) = true) ∧ (PySem.W.makesIn K (A.getD 2 0) = true) ∧ (PySem.W.keepIn K (.ref (A.getD 2 0)) = true) ∧ (PySem.W.findIn K (.ref (A.getD 2 0)) "mark" = some (some (.ref (A.getD 45 0)))) ∧ (PySem.W.isFn K (.ref (A.getD 45 0)) = true) ∧ (PySem.W.findIn K (.ref (A.getD 2 0)) "note" = some (some (.ref (A.getD 46 0)))) ∧ (PySem.W.isFn K (.ref (A.getD 46 0)) = true) ∧ (PySem.W.findIn K (.ref (A.getD 2 0)) "forget" = some (some (.ref (A.getD 47 0)))) ∧ (PySem.W.isFn K (.ref (A.getD 47 0)) = true) ∧ (PySem.W.findIn K (.ref (A.getD 2 0)) "emptied" = some (some (.ref (A.getD 48 0)))) ∧ (PySem.W.isFn K (.ref (A.getD 48 0)) = true) ∧ (PySem.W.findIn K (.ref (A.getD 2 0)) "live_pages" = some (some (.ref (A.getD 49 0)))) ∧ (PySem.W.isFn K (.ref (A.getD 49 0)) = true) ∧ (PySem.W.findIn K (.ref (A.getD 2 0)) "held" = some (some (.ref (A.getD 50 0)))) ∧ (PySem.W.isFn K (.ref (A.getD 50 0)) = true) ∧ (PySem.W.findIn K (.ref (A.getD 2 0)) "tell" = some (some (.ref (A.getD 51 0)))) ∧ (PySem.W.isFn K (.ref (A.getD 51 0)) = true) ∧ (PySem.W.nsIn K mainGlobals "Plain" = some (some (.ref (A.getD 3 0)))) ∧ (PySem.W.plainGet K (A.getD 3 0) Str.empty = true) ∧ (PySem.W.hasDictIn K (A.getD 3 0) = true) ∧ (PySem.W.plainOver K (A.getD 3 0) = true) ∧ (PySem.W.findIn K (.ref (A.getD 3 0)) "__setattr__" = some (some (.builtin "object.__setattr__"))) ∧ (PySem.W.findIn K (.ref (A.getD 3 0)) "chip" = some none) := by
  unfold fsK1 at h
  obtain ⟨h0, h⟩ := He.ba h
  obtain ⟨h1, h⟩ := He.ba h
  obtain ⟨h2, h⟩ := He.ba h
  obtain ⟨h3, h⟩ := He.ba h
  obtain ⟨h4, h⟩ := He.ba h
  obtain ⟨h5, h⟩ := He.ba h
  obtain ⟨h6, h⟩ := He.ba h
  obtain ⟨h7, h⟩ := He.ba h
  obtain ⟨h8, h⟩ := He.ba h
  obtain ⟨h9, h⟩ := He.ba h
  obtain ⟨h10, h⟩ := He.ba h
  obtain ⟨h11, h⟩ := He.ba h
  obtain ⟨h12, h⟩ := He.ba h
  obtain ⟨h13, h⟩ := He.ba h
  obtain ⟨h14, h⟩ := He.ba h
  obtain ⟨h15, h⟩ := He.ba h
  obtain ⟨h16, h⟩ := He.ba h
  obtain ⟨h17, h⟩ := He.ba h
  obtain ⟨h18, h⟩ := He.ba h
  obtain ⟨h19, h⟩ := He.ba h
  obtain ⟨h20, h⟩ := He.ba h
  obtain ⟨h21, h⟩ := He.ba h
  obtain ⟨h22, h⟩ := He.ba h
  obtain ⟨h23, h⟩ := He.ba h
  exact ⟨of_decide_eq_true h0, of_decide_eq_true h1, h2, h3, h4, of_decide_eq_true h5, h6, of_decide_eq_true h7, h8, of_decide_eq_true h9, h10, of_decide_eq_true h11, h12, of_decide_eq_true h13, h14, of_decide_eq_true h15, h16, of_decide_eq_true h17, h18, of_decide_eq_true h19, h20, h21, h22, of_decide_eq_true h23, of_decide_eq_true h⟩
def fsK2 (K : PySem.W.Frag) (A : List Addr) : Bool := decide (PySem.W.findIn K (.ref (A.getD 3 0)) "terms" = some none) && (decide (PySem.W.findIn K (.ref (A.getD 3 0)) "book" = some none) && (decide (PySem.W.findIn K (.ref (A.getD 3 0)) "__init__" = some (some (.ref (A.getD 54 0)))) && (PySem.W.isFn K (.ref (A.getD 54 0)) && (PySem.W.makesIn K (A.getD 3 0) && (PySem.W.keepIn K (.ref (A.getD 3 0)) && (decide (PySem.W.findIn K (.ref (A.getD 3 0)) "good" = some (some (.ref (A.getD 55 0)))) && (PySem.W.isFn K (.ref (A.getD 55 0)) && (decide (PySem.W.findIn K (.ref (A.getD 3 0)) "free" = some (some (.ref (A.getD 56 0)))) && (PySem.W.isFn K (.ref (A.getD 56 0)) && (decide (PySem.W.findIn K (.ref (A.getD 3 0)) "part" = some (some (.ref (A.getD 57 0)))) && (PySem.W.isFn K (.ref (A.getD 57 0)) && (decide (PySem.W.findIn K (.ref (A.getD 3 0)) "spot" = some (some (.ref (A.getD 58 0)))) && (PySem.W.isFn K (.ref (A.getD 58 0)) && (decide (PySem.W.findIn K (.ref (A.getD 3 0)) "reserve" = some (some (.ref (A.getD 59 0)))) && (PySem.W.isFn K (.ref (A.getD 59 0)) && (decide (PySem.W.findIn K (.ref (A.getD 3 0)) "ready" = some (some (.ref (A.getD 60 0)))) && (PySem.W.isFn K (.ref (A.getD 60 0)) && (decide (PySem.W.findIn K (.ref (A.getD 3 0)) "make_ready" = some (some (.ref (A.getD 61 0)))) && (PySem.W.isFn K (.ref (A.getD 61 0)) && (decide (PySem.W.findIn K (.ref (A.getD 3 0)) "set_down" = some (some (.ref (A.getD 62 0)))) && (PySem.W.isFn K (.ref (A.getD 62 0)) && (decide (PySem.W.findIn K (.ref (A.getD 3 0)) "lay" = some (some (.ref (A.getD 63 0)))) && (PySem.W.isFn K (.ref (A.getD 63 0)) && (decide (PySem.W.findIn K (.ref (A.getD 3 0)) "need_sheet" = some (some (.ref (A.getD 64 0))))))))))))))))))))))))))))
theorem fsK2_ok {K : PySem.W.Frag} {A : List Addr} (h : fsK2 K A = true) : (PySem.W.findIn K (.ref (A.getD 3 0)) "terms" = some none) ∧ (PySem.W.findIn K (.ref (A.getD 3 0)) "book" = some none) ∧ (PySem.W.findIn K (.ref (A.getD 3 0)) "__init__" = some (some (.ref (A.getD 54 0)))) ∧ (PySem.W.isFn K (.ref (A.getD 54 0)) = true) ∧ (PySem.W.makesIn K (A.getD 3 0) = true) ∧ (PySem.W.keepIn K (.ref (A.getD 3 0)) = true) ∧ (PySem.W.findIn K (.ref (A.getD 3 0)) "good" = some (some (.ref (A.getD 55 0)))) ∧ (PySem.W.isFn K (.ref (A.getD 55 0)) = true) ∧ (PySem.W.findIn K (.ref (A.getD 3 0)) "free" = some (some (.ref (A.getD 56 0)))) ∧ (PySem.W.isFn K (.ref (A.getD 56 0)) = true) ∧ (PySem.W.findIn K (.ref (A.getD 3 0)) "part" = some (some (.ref (A.getD 57 0)))) ∧ (PySem.W.isFn K (.ref (A.getD 57 0)) = true) ∧ (PySem.W.findIn K (.ref (A.getD 3 0)) "spot" = some (some (.ref (A.getD 58 0)))) ∧ (PySem.W.isFn K (.ref (A.getD 58 0)) = true) ∧ (PySem.W.findIn K (.ref (A.getD 3 0)) "reserve" = some (some (.ref (A.getD 59 0)))) ∧ (PySem.W.isFn K (.ref (A.getD 59 0)) = true) ∧ (PySem.W.findIn K (.ref (A.getD 3 0)) "ready" = some (some (.ref (A.getD 60 0)))) ∧ (PySem.W.isFn K (.ref (A.getD 60 0)) = true) ∧ (PySem.W.findIn K (.ref (A.getD 3 0)) "make_ready" = some (some (.ref (A.getD 61 0)))) ∧ (PySem.W.isFn K (.ref (A.getD 61 0)) = true) ∧ (PySem.W.findIn K (.ref (A.getD 3 0)) "set_down" = some (some (.ref (A.getD 62 0)))) ∧ (PySem.W.isFn K (.ref (A.getD 62 0)) = true) ∧ (PySem.W.findIn K (.ref (A.getD 3 0)) "lay" = some (some (.ref (A.getD 63 0)))) ∧ (PySem.W.isFn K (.ref (A.getD 63 0)) = true) ∧ (PySem.W.findIn K (.ref (A.getD 3 0)) "need_sheet" = some (some (.ref (A.getD 64 0)))) := by
  unfold fsK2 at h
  obtain ⟨h0, h⟩ := He.ba h
  obtain ⟨h1, h⟩ := He.ba h
  obtain ⟨h2, h⟩ := He.ba h
  obtain ⟨h3, h⟩ := He.ba h
  obtain ⟨h4, h⟩ := He.ba h
  obtain ⟨h5, h⟩ := He.ba h
  obtain ⟨h6, h⟩ := He.ba h
  obtain ⟨h7, h⟩ := He.ba h
  obtain ⟨h8, h⟩ := He.ba h
  obtain ⟨h9, h⟩ := He.ba h
  obtain ⟨h10, h⟩ := He.ba h
  obtain ⟨h11, h⟩ := He.ba h
  obtain ⟨h12, h⟩ := He.ba h
  obtain ⟨h13, h⟩ := He.ba h
  obtain ⟨h14, h⟩ := He.ba h
  obtain ⟨h15, h⟩ := He.ba h
  obtain ⟨h16, h⟩ := He.ba h
  obtain ⟨h17, h⟩ := He.ba h
  obtain ⟨h18, h⟩ := He.ba h
  obtain ⟨h19, h⟩ := He.ba h
  obtain ⟨h20, h⟩ := He.ba h
  obtain ⟨h21, h⟩ := He.ba h
  obtain ⟨h22, h⟩ := He.ba h
  obtain ⟨h23, h⟩ := He.ba h
  exact ⟨of_decide_eq_true h0, of_decide_eq_true h1, of_decide_eq_true h2, h3, h4, h5, of_decide_eq_true h6, h7, of_decide_eq_true h8, h9, of_decide_eq_true h10, h11, of_decide_eq_true h12, h13, of_decide_eq_true h14, h15, of_decide_eq_true h16, h17, of_decide_eq_true h18, h19, of_decide_eq_true h20, h21, of_decide_eq_true h22, h23, of_decide_eq_true h⟩
def fsK3 (K : PySem.W.Frag) (A : List Addr) : Bool := PySem.W.isFn K (.ref (A.getD 64 0)) && (decide (PySem.W.findIn K (.ref (A.getD 3 0)) "write" = some (some (.ref (A.getD 65 0)))) && (PySem.W.isFn K (.ref (A.getD 65 0)) && (decide (PySem.W.findIn K (.ref (A.getD 3 0)) "read" = some (some (.ref (A.getD 66 0)))) && (PySem.W.isFn K (.ref (A.getD 66 0)) && (decide (PySem.W.findIn K (.ref (A.getD 3 0)) "held" = some (some (.ref (A.getD 67 0)))) && (PySem.W.isFn K (.ref (A.getD 67 0)) && (decide (PySem.W.nsIn K mainGlobals "Store" = some (some (.ref (A.getD 4 0)))) && (PySem.W.plainGet K (A.getD 4 0) Str.empty && (PySem.W.hasDictIn K (A.getD 4 0) && (PySem.W.plainOver K (A.getD 4 0) && (decide (PySem.W.findIn K (.ref (A.getD 4 0)) "__setattr__" = some (some (.builtin "object.__setattr__"))) && (decide (PySem.W.findIn K (.ref (A.getD 4 0)) "rule" = some none) && (decide (PySem.W.findIn K (.ref (A.getD 4 0)) "papers" = some none) && (decide (PySem.W.findIn K (.ref (A.getD 4 0)) "chip" = some none) && (decide (PySem.W.findIn K (.ref (A.getD 4 0)) "terms" = some none) && (decide (PySem.W.findIn K (.ref (A.getD 4 0)) "book" = some none) && (decide (PySem.W.findIn K (.ref (A.getD 4 0)) "__init__" = some (some (.ref (A.getD 68 0)))) && (PySem.W.isFn K (.ref (A.getD 68 0)) && (PySem.W.makesIn K (A.getD 4 0) && (PySem.W.keepIn K (.ref (A.getD 4 0)) && (decide (PySem.W.findIn K (.ref (A.getD 4 0)) "good" = some (some (.ref (A.getD 55 0)))) && (decide (PySem.W.findIn K (.ref (A.getD 4 0)) "free" = some (some (.ref (A.getD 56 0)))) && (decide (PySem.W.findIn K (.ref (A.getD 4 0)) "part" = some (some (.ref (A.getD 57 0)))) && (decide (PySem.W.findIn K (.ref (A.getD 4 0)) "spot" = some (some (.ref (A.getD 58 0))))))))))))))))))))))))))))
theorem fsK3_ok {K : PySem.W.Frag} {A : List Addr} (h : fsK3 K A = true) : (PySem.W.isFn K (.ref (A.getD 64 0)) = true) ∧ (PySem.W.findIn K (.ref (A.getD 3 0)) "write" = some (some (.ref (A.getD 65 0)))) ∧ (PySem.W.isFn K (.ref (A.getD 65 0)) = true) ∧ (PySem.W.findIn K (.ref (A.getD 3 0)) "read" = some (some (.ref (A.getD 66 0)))) ∧ (PySem.W.isFn K (.ref (A.getD 66 0)) = true) ∧ (PySem.W.findIn K (.ref (A.getD 3 0)) "held" = some (some (.ref (A.getD 67 0)))) ∧ (PySem.W.isFn K (.ref (A.getD 67 0)) = true) ∧ (PySem.W.nsIn K mainGlobals "Store" = some (some (.ref (A.getD 4 0)))) ∧ (PySem.W.plainGet K (A.getD 4 0) Str.empty = true) ∧ (PySem.W.hasDictIn K (A.getD 4 0) = true) ∧ (PySem.W.plainOver K (A.getD 4 0) = true) ∧ (PySem.W.findIn K (.ref (A.getD 4 0)) "__setattr__" = some (some (.builtin "object.__setattr__"))) ∧ (PySem.W.findIn K (.ref (A.getD 4 0)) "rule" = some none) ∧ (PySem.W.findIn K (.ref (A.getD 4 0)) "papers" = some none) ∧ (PySem.W.findIn K (.ref (A.getD 4 0)) "chip" = some none) ∧ (PySem.W.findIn K (.ref (A.getD 4 0)) "terms" = some none) ∧ (PySem.W.findIn K (.ref (A.getD 4 0)) "book" = some none) ∧ (PySem.W.findIn K (.ref (A.getD 4 0)) "__init__" = some (some (.ref (A.getD 68 0)))) ∧ (PySem.W.isFn K (.ref (A.getD 68 0)) = true) ∧ (PySem.W.makesIn K (A.getD 4 0) = true) ∧ (PySem.W.keepIn K (.ref (A.getD 4 0)) = true) ∧ (PySem.W.findIn K (.ref (A.getD 4 0)) "good" = some (some (.ref (A.getD 55 0)))) ∧ (PySem.W.findIn K (.ref (A.getD 4 0)) "free" = some (some (.ref (A.getD 56 0)))) ∧ (PySem.W.findIn K (.ref (A.getD 4 0)) "part" = some (some (.ref (A.getD 57 0)))) ∧ (PySem.W.findIn K (.ref (A.getD 4 0)) "spot" = some (some (.ref (A.getD 58 0)))) := by
  unfold fsK3 at h
  obtain ⟨h0, h⟩ := He.ba h
  obtain ⟨h1, h⟩ := He.ba h
  obtain ⟨h2, h⟩ := He.ba h
  obtain ⟨h3, h⟩ := He.ba h
  obtain ⟨h4, h⟩ := He.ba h
  obtain ⟨h5, h⟩ := He.ba h
  obtain ⟨h6, h⟩ := He.ba h
  obtain ⟨h7, h⟩ := He.ba h
  obtain ⟨h8, h⟩ := He.ba h
  obtain ⟨h9, h⟩ := He.ba h
  obtain ⟨h10, h⟩ := He.ba h
  obtain ⟨h11, h⟩ := He.ba h
  obtain ⟨h12, h⟩ := He.ba h
  obtain ⟨h13, h⟩ := He.ba h
  obtain ⟨h14, h⟩ := He.ba h
  obtain ⟨h15, h⟩ := He.ba h
  obtain ⟨h16, h⟩ := He.ba h
  obtain ⟨h17, h⟩ := He.ba h
  obtain ⟨h18, h⟩ := He.ba h
  obtain ⟨h19, h⟩ := He.ba h
  obtain ⟨h20, h⟩ := He.ba h
  obtain ⟨h21, h⟩ := He.ba h
  obtain ⟨h22, h⟩ := He.ba h
  obtain ⟨h23, h⟩ := He.ba h
  exact ⟨h0, of_decide_eq_true h1, h2, of_decide_eq_true h3, h4, of_decide_eq_true h5, h6, of_decide_eq_true h7, h8, h9, h10, of_decide_eq_true h11, of_decide_eq_true h12, of_decide_eq_true h13, of_decide_eq_true h14, of_decide_eq_true h15, of_decide_eq_true h16, of_decide_eq_true h17, h18, h19, h20, of_decide_eq_true h21, of_decide_eq_true h22, of_decide_eq_true h23, of_decide_eq_true h⟩
def fsK4 (K : PySem.W.Frag) (A : List Addr) : Bool := decide (PySem.W.findIn K (.ref (A.getD 4 0)) "reserve" = some (some (.ref (A.getD 70 0)))) && (PySem.W.isFn K (.ref (A.getD 70 0)) && (decide (PySem.W.findIn K (.ref (A.getD 4 0)) "ready" = some (some (.ref (A.getD 60 0)))) && (decide (PySem.W.findIn K (.ref (A.getD 4 0)) "make_ready" = some (some (.ref (A.getD 81 0)))) && (PySem.W.isFn K (.ref (A.getD 81 0)) && (decide (PySem.W.findIn K (.ref (A.getD 4 0)) "set_down" = some (some (.ref (A.getD 62 0)))) && (decide (PySem.W.findIn K (.ref (A.getD 4 0)) "lay" = some (some (.ref (A.getD 63 0)))) && (decide (PySem.W.findIn K (.ref (A.getD 4 0)) "need_sheet" = some (some (.ref (A.getD 64 0)))) && (decide (PySem.W.findIn K (.ref (A.getD 4 0)) "write" = some (some (.ref (A.getD 65 0)))) && (decide (PySem.W.findIn K (.ref (A.getD 4 0)) "read" = some (some (.ref (A.getD 66 0)))) && (decide (PySem.W.findIn K (.ref (A.getD 4 0)) "held" = some (some (.ref (A.getD 67 0)))) && (decide (PySem.W.findIn K (.ref (A.getD 4 0)) "take" = some (some (.ref (A.getD 69 0)))) && (PySem.W.isFn K (.ref (A.getD 69 0)) && (decide (PySem.W.findIn K (.ref (A.getD 4 0)) "space" = some (some (.ref (A.getD 71 0)))) && (PySem.W.isFn K (.ref (A.getD 71 0)) && (decide (PySem.W.findIn K (.ref (A.getD 4 0)) "tally" = some (some (.ref (A.getD 72 0)))) && (PySem.W.isFn K (.ref (A.getD 72 0)) && (decide (PySem.W.findIn K (.ref (A.getD 4 0)) "full_ones" = some (some (.ref (A.getD 73 0)))) && (PySem.W.isFn K (.ref (A.getD 73 0)) && (decide (PySem.W.findIn K (.ref (A.getD 4 0)) "options" = some (some (.ref (A.getD 74 0)))) && (PySem.W.isFn K (.ref (A.getD 74 0)) && (decide (PySem.W.findIn K (.ref (A.getD 4 0)) "otherwise" = some (some (.ref (A.getD 75 0)))) && (PySem.W.isFn K (.ref (A.getD 75 0)) && (decide (PySem.W.findIn K (.ref (A.getD 4 0)) "choice" = some (some (.ref (A.getD 76 0)))) && (PySem.W.isFn K (.ref (A.getD 76 0))))))))))))))))))))))))))
theorem fsK4_ok {K : PySem.W.Frag} {A : List Addr} (h : fsK4 K A = true) : (PySem.W.findIn K (.ref (A.getD 4 0)) "reserve" = some (some (.ref (A.getD 70 0)))) ∧ (PySem.W.isFn K (.ref (A.getD 70 0)) = true) ∧ (PySem.W.findIn K (.ref (A.getD 4 0)) "ready" = some (some (.ref (A.getD 60 0)))) ∧ (PySem.W.findIn K (.ref (A.getD 4 0)) "make_ready" = some (some (.ref (A.getD 81 0)))) ∧ (PySem.W.isFn K (.ref (A.getD 81 0)) = true) ∧ (PySem.W.findIn K (.ref (A.getD 4 0)) "set_down" = some (some (.ref (A.getD 62 0)))) ∧ (PySem.W.findIn K (.ref (A.getD 4 0)) "lay" = some (some (.ref (A.getD 63 0)))) ∧ (PySem.W.findIn K (.ref (A.getD 4 0)) "need_sheet" = some (some (.ref (A.getD 64 0)))) ∧ (PySem.W.findIn K (.ref (A.getD 4 0)) "write" = some (some (.ref (A.getD 65 0)))) ∧ (PySem.W.findIn K (.ref (A.getD 4 0)) "read" = some (some (.ref (A.getD 66 0)))) ∧ (PySem.W.findIn K (.ref (A.getD 4 0)) "held" = some (some (.ref (A.getD 67 0)))) ∧ (PySem.W.findIn K (.ref (A.getD 4 0)) "take" = some (some (.ref (A.getD 69 0)))) ∧ (PySem.W.isFn K (.ref (A.getD 69 0)) = true) ∧ (PySem.W.findIn K (.ref (A.getD 4 0)) "space" = some (some (.ref (A.getD 71 0)))) ∧ (PySem.W.isFn K (.ref (A.getD 71 0)) = true) ∧ (PySem.W.findIn K (.ref (A.getD 4 0)) "tally" = some (some (.ref (A.getD 72 0)))) ∧ (PySem.W.isFn K (.ref (A.getD 72 0)) = true) ∧ (PySem.W.findIn K (.ref (A.getD 4 0)) "full_ones" = some (some (.ref (A.getD 73 0)))) ∧ (PySem.W.isFn K (.ref (A.getD 73 0)) = true) ∧ (PySem.W.findIn K (.ref (A.getD 4 0)) "options" = some (some (.ref (A.getD 74 0)))) ∧ (PySem.W.isFn K (.ref (A.getD 74 0)) = true) ∧ (PySem.W.findIn K (.ref (A.getD 4 0)) "otherwise" = some (some (.ref (A.getD 75 0)))) ∧ (PySem.W.isFn K (.ref (A.getD 75 0)) = true) ∧ (PySem.W.findIn K (.ref (A.getD 4 0)) "choice" = some (some (.ref (A.getD 76 0)))) ∧ (PySem.W.isFn K (.ref (A.getD 76 0)) = true) := by
  unfold fsK4 at h
  obtain ⟨h0, h⟩ := He.ba h
  obtain ⟨h1, h⟩ := He.ba h
  obtain ⟨h2, h⟩ := He.ba h
  obtain ⟨h3, h⟩ := He.ba h
  obtain ⟨h4, h⟩ := He.ba h
  obtain ⟨h5, h⟩ := He.ba h
  obtain ⟨h6, h⟩ := He.ba h
  obtain ⟨h7, h⟩ := He.ba h
  obtain ⟨h8, h⟩ := He.ba h
  obtain ⟨h9, h⟩ := He.ba h
  obtain ⟨h10, h⟩ := He.ba h
  obtain ⟨h11, h⟩ := He.ba h
  obtain ⟨h12, h⟩ := He.ba h
  obtain ⟨h13, h⟩ := He.ba h
  obtain ⟨h14, h⟩ := He.ba h
  obtain ⟨h15, h⟩ := He.ba h
  obtain ⟨h16, h⟩ := He.ba h
  obtain ⟨h17, h⟩ := He.ba h
  obtain ⟨h18, h⟩ := He.ba h
  obtain ⟨h19, h⟩ := He.ba h
  obtain ⟨h20, h⟩ := He.ba h
  obtain ⟨h21, h⟩ := He.ba h
  obtain ⟨h22, h⟩ := He.ba h
  obtain ⟨h23, h⟩ := He.ba h
  exact ⟨of_decide_eq_true h0, h1, of_decide_eq_true h2, of_decide_eq_true h3, h4, of_decide_eq_true h5, of_decide_eq_true h6, of_decide_eq_true h7, of_decide_eq_true h8, of_decide_eq_true h9, of_decide_eq_true h10, of_decide_eq_true h11, h12, of_decide_eq_true h13, h14, of_decide_eq_true h15, h16, of_decide_eq_true h17, h18, of_decide_eq_true h19, h20, of_decide_eq_true h21, h22, of_decide_eq_true h23, h⟩
def fsK5 (K : PySem.W.Frag) (A : List Addr) : Bool := decide (PySem.W.findIn K (.ref (A.getD 4 0)) "value_for" = some (some (.ref (A.getD 77 0)))) && (PySem.W.isFn K (.ref (A.getD 77 0)) && (decide (PySem.W.findIn K (.ref (A.getD 4 0)) "moved" = some (some (.ref (A.getD 78 0)))) && (PySem.W.isFn K (.ref (A.getD 78 0)) && (decide (PySem.W.findIn K (.ref (A.getD 4 0)) "wiped" = some (some (.ref (A.getD 79 0)))) && (PySem.W.isFn K (.ref (A.getD 79 0)) && (decide (PySem.W.findIn K (.ref (A.getD 4 0)) "make_room" = some (some (.ref (A.getD 80 0)))) && (PySem.W.isFn K (.ref (A.getD 80 0)) && (decide (PySem.W.nsIn K mainGlobals "Chip" = some (some (.ref (A.getD 5 0)))) && (PySem.W.plainGet K (A.getD 5 0) Str.empty && (PySem.W.hasDictIn K (A.getD 5 0) && (PySem.W.plainOver K (A.getD 5 0) && (decide (PySem.W.findIn K (.ref (A.getD 5 0)) "__setattr__" = some (some (.builtin "object.__setattr__"))) && (decide (PySem.W.findIn K (.ref (A.getD 5 0)) "blocks" = some none) && (decide (PySem.W.findIn K (.ref (A.getD 5 0)) "pages" = some none) && (decide (PySem.W.findIn K (.ref (A.getD 5 0)) "most" = some none) && (decide (PySem.W.findIn K (.ref (A.getD 5 0)) "lasts" = some none) && (decide (PySem.W.findIn K (.ref (A.getD 5 0)) "stuff" = some none) && (decide (PySem.W.findIn K (.ref (A.getD 5 0)) "tried" = some none) && (decide (PySem.W.findIn K (.ref (A.getD 5 0)) "clearings" = some none) && (decide (PySem.W.findIn K (.ref (A.getD 5 0)) "broken" = some none) && (decide (PySem.W.findIn K (.ref (A.getD 5 0)) "left" = some none) && (decide (PySem.W.findIn K (.ref (A.getD 5 0)) "log" = some none) && (decide (PySem.W.findIn K (.ref (A.getD 5 0)) "__init__" = some (some (.ref (A.getD 83 0)))) && (PySem.W.isFn K (.ref (A.getD 83 0))))))))))))))))))))))))))
theorem fsK5_ok {K : PySem.W.Frag} {A : List Addr} (h : fsK5 K A = true) : (PySem.W.findIn K (.ref (A.getD 4 0)) "value_for" = some (some (.ref (A.getD 77 0)))) ∧ (PySem.W.isFn K (.ref (A.getD 77 0)) = true) ∧ (PySem.W.findIn K (.ref (A.getD 4 0)) "moved" = some (some (.ref (A.getD 78 0)))) ∧ (PySem.W.isFn K (.ref (A.getD 78 0)) = true) ∧ (PySem.W.findIn K (.ref (A.getD 4 0)) "wiped" = some (some (.ref (A.getD 79 0)))) ∧ (PySem.W.isFn K (.ref (A.getD 79 0)) = true) ∧ (PySem.W.findIn K (.ref (A.getD 4 0)) "make_room" = some (some (.ref (A.getD 80 0)))) ∧ (PySem.W.isFn K (.ref (A.getD 80 0)) = true) ∧ (PySem.W.nsIn K mainGlobals "Chip" = some (some (.ref (A.getD 5 0)))) ∧ (PySem.W.plainGet K (A.getD 5 0) Str.empty = true) ∧ (PySem.W.hasDictIn K (A.getD 5 0) = true) ∧ (PySem.W.plainOver K (A.getD 5 0) = true) ∧ (PySem.W.findIn K (.ref (A.getD 5 0)) "__setattr__" = some (some (.builtin "object.__setattr__"))) ∧ (PySem.W.findIn K (.ref (A.getD 5 0)) "blocks" = some none) ∧ (PySem.W.findIn K (.ref (A.getD 5 0)) "pages" = some none) ∧ (PySem.W.findIn K (.ref (A.getD 5 0)) "most" = some none) ∧ (PySem.W.findIn K (.ref (A.getD 5 0)) "lasts" = some none) ∧ (PySem.W.findIn K (.ref (A.getD 5 0)) "stuff" = some none) ∧ (PySem.W.findIn K (.ref (A.getD 5 0)) "tried" = some none) ∧ (PySem.W.findIn K (.ref (A.getD 5 0)) "clearings" = some none) ∧ (PySem.W.findIn K (.ref (A.getD 5 0)) "broken" = some none) ∧ (PySem.W.findIn K (.ref (A.getD 5 0)) "left" = some none) ∧ (PySem.W.findIn K (.ref (A.getD 5 0)) "log" = some none) ∧ (PySem.W.findIn K (.ref (A.getD 5 0)) "__init__" = some (some (.ref (A.getD 83 0)))) ∧ (PySem.W.isFn K (.ref (A.getD 83 0)) = true) := by
  unfold fsK5 at h
  obtain ⟨h0, h⟩ := He.ba h
  obtain ⟨h1, h⟩ := He.ba h
  obtain ⟨h2, h⟩ := He.ba h
  obtain ⟨h3, h⟩ := He.ba h
  obtain ⟨h4, h⟩ := He.ba h
  obtain ⟨h5, h⟩ := He.ba h
  obtain ⟨h6, h⟩ := He.ba h
  obtain ⟨h7, h⟩ := He.ba h
  obtain ⟨h8, h⟩ := He.ba h
  obtain ⟨h9, h⟩ := He.ba h
  obtain ⟨h10, h⟩ := He.ba h
  obtain ⟨h11, h⟩ := He.ba h
  obtain ⟨h12, h⟩ := He.ba h
  obtain ⟨h13, h⟩ := He.ba h
  obtain ⟨h14, h⟩ := He.ba h
  obtain ⟨h15, h⟩ := He.ba h
  obtain ⟨h16, h⟩ := He.ba h
  obtain ⟨h17, h⟩ := He.ba h
  obtain ⟨h18, h⟩ := He.ba h
  obtain ⟨h19, h⟩ := He.ba h
  obtain ⟨h20, h⟩ := He.ba h
  obtain ⟨h21, h⟩ := He.ba h
  obtain ⟨h22, h⟩ := He.ba h
  obtain ⟨h23, h⟩ := He.ba h
  exact ⟨of_decide_eq_true h0, h1, of_decide_eq_true h2, h3, of_decide_eq_true h4, h5, of_decide_eq_true h6, h7, of_decide_eq_true h8, h9, h10, h11, of_decide_eq_true h12, of_decide_eq_true h13, of_decide_eq_true h14, of_decide_eq_true h15, of_decide_eq_true h16, of_decide_eq_true h17, of_decide_eq_true h18, of_decide_eq_true h19, of_decide_eq_true h20, of_decide_eq_true h21, of_decide_eq_true h22, of_decide_eq_true h23, h⟩
def fsK6 (K : PySem.W.Frag) (A : List Addr) : Bool := PySem.W.makesIn K (A.getD 5 0) && (PySem.W.keepIn K (.ref (A.getD 5 0)) && (decide (PySem.W.findIn K (.ref (A.getD 5 0)) "need_page" = some (some (.ref (A.getD 84 0)))) && (PySem.W.isFn K (.ref (A.getD 84 0)) && (decide (PySem.W.findIn K (.ref (A.getD 5 0)) "need_block" = some (some (.ref (A.getD 85 0)))) && (PySem.W.isFn K (.ref (A.getD 85 0)) && (decide (PySem.W.findIn K (.ref (A.getD 5 0)) "need_power" = some (some (.ref (A.getD 86 0)))) && (PySem.W.isFn K (.ref (A.getD 86 0)) && (decide (PySem.W.findIn K (.ref (A.getD 5 0)) "need_good" = some (some (.ref (A.getD 87 0)))) && (PySem.W.isFn K (.ref (A.getD 87 0)) && (decide (PySem.W.findIn K (.ref (A.getD 5 0)) "goes_well" = some (some (.ref (A.getD 88 0)))) && (PySem.W.isFn K (.ref (A.getD 88 0)) && (decide (PySem.W.findIn K (.ref (A.getD 5 0)) "put" = some (some (.ref (A.getD 89 0)))) && (PySem.W.isFn K (.ref (A.getD 89 0)) && (decide (PySem.W.findIn K (.ref (A.getD 5 0)) "wipe" = some (some (.ref (A.getD 90 0)))) && (PySem.W.isFn K (.ref (A.getD 90 0)) && (decide (PySem.W.findIn K (.ref (A.getD 5 0)) "read" = some (some (.ref (A.getD 91 0)))) && (PySem.W.isFn K (.ref (A.getD 91 0)) && (decide (PySem.W.findIn K (.ref (A.getD 5 0)) "is_dark" = some (some (.ref (A.getD 92 0)))) && (PySem.W.isFn K (.ref (A.getD 92 0)) && (decide (PySem.W.findIn K (.ref (A.getD 5 0)) "cleared" = some (some (.ref (A.getD 93 0)))) && (PySem.W.isFn K (.ref (A.getD 93 0)) && (decide (PySem.W.findIn K (.ref (A.getD 5 0)) "failed" = some (some (.ref (A.getD 94 0)))) && (PySem.W.isFn K (.ref (A.getD 94 0)) && (decide (PySem.W.findIn K (.ref (A.getD 5 0)) "deeds" = some (some (.ref (A.getD 95 0))))))))))))))))))))))))))))
theorem fsK6_ok {K : PySem.W.Frag} {A : List Addr} (h : fsK6 K A = true) : (PySem.W.makesIn K (A.getD 5 0) = true) ∧ (PySem.W.keepIn K (.ref (A.getD 5 0)) = true) ∧ (PySem.W.findIn K (.ref (A.getD 5 0)) "need_page" = some (some (.ref (A.getD 84 0)))) ∧ (PySem.W.isFn K (.ref (A.getD 84 0)) = true) ∧ (PySem.W.findIn K (.ref (A.getD 5 0)) "need_block" = some (some (.ref (A.getD 85 0)))) ∧ (PySem.W.isFn K (.ref (A.getD 85 0)) = true) ∧ (PySem.W.findIn K (.ref (A.getD 5 0)) "need_power" = some (some (.ref (A.getD 86 0)))) ∧ (PySem.W.isFn K (.ref (A.getD 86 0)) = true) ∧ (PySem.W.findIn K (.ref (A.getD 5 0)) "need_good" = some (some (.ref (A.getD 87 0)))) ∧ (PySem.W.isFn K (.ref (A.getD 87 0)) = true) ∧ (PySem.W.findIn K (.ref (A.getD 5 0)) "goes_well" = some (some (.ref (A.getD 88 0)))) ∧ (PySem.W.isFn K (.ref (A.getD 88 0)) = true) ∧ (PySem.W.findIn K (.ref (A.getD 5 0)) "put" = some (some (.ref (A.getD 89 0)))) ∧ (PySem.W.isFn K (.ref (A.getD 89 0)) = true) ∧ (PySem.W.findIn K (.ref (A.getD 5 0)) "wipe" = some (some (.ref (A.getD 90 0)))) ∧ (PySem.W.isFn K (.ref (A.getD 90 0)) = true) ∧ (PySem.W.findIn K (.ref (A.getD 5 0)) "read" = some (some (.ref (A.getD 91 0)))) ∧ (PySem.W.isFn K (.ref (A.getD 91 0)) = true) ∧ (PySem.W.findIn K (.ref (A.getD 5 0)) "is_dark" = some (some (.ref (A.getD 92 0)))) ∧ (PySem.W.isFn K (.ref (A.getD 92 0)) = true) ∧ (PySem.W.findIn K (.ref (A.getD 5 0)) "cleared" = some (some (.ref (A.getD 93 0)))) ∧ (PySem.W.isFn K (.ref (A.getD 93 0)) = true) ∧ (PySem.W.findIn K (.ref (A.getD 5 0)) "failed" = some (some (.ref (A.getD 94 0)))) ∧ (PySem.W.isFn K (.ref (A.getD 94 0)) = true) ∧ (PySem.W.findIn K (.ref (A.getD 5 0)) "deeds" = some (some (.ref (A.getD 95 0)))) := by
  unfold fsK6 at h
  obtain ⟨h0, h⟩ := He.ba h
  obtain ⟨h1, h⟩ := He.ba h
  obtain ⟨h2, h⟩ := He.ba h
  obtain ⟨h3, h⟩ := He.ba h
  obtain ⟨h4, h⟩ := He.ba h
  obtain ⟨h5, h⟩ := He.ba h
  obtain ⟨h6, h⟩ := He.ba h
  obtain ⟨h7, h⟩ := He.ba h
  obtain ⟨h8, h⟩ := He.ba h
  obtain ⟨h9, h⟩ := He.ba h
  obtain ⟨h10, h⟩ := He.ba h
  obtain ⟨h11, h⟩ := He.ba h
  obtain ⟨h12, h⟩ := He.ba h
  obtain ⟨h13, h⟩ := He.ba h
  obtain ⟨h14, h⟩ := He.ba h
  obtain ⟨h15, h⟩ := He.ba h
  obtain ⟨h16, h⟩ := He.ba h
  obtain ⟨h17, h⟩ := He.ba h
  obtain ⟨h18, h⟩ := He.ba h
  obtain ⟨h19, h⟩ := He.ba h
  obtain ⟨h20, h⟩ := He.ba h
  obtain ⟨h21, h⟩ := He.ba h
  obtain ⟨h22, h⟩ := He.ba h
  obtain ⟨h23, h⟩ := He.ba h
  exact ⟨h0, h1, of_decide_eq_true h2, h3, of_decide_eq_true h4, h5, of_decide_eq_true h6, h7, of_decide_eq_true h8, h9, of_decide_eq_true h10, h11, of_decide_eq_true h12, h13, of_decide_eq_true h14, h15, of_decide_eq_true h16, h17, of_decide_eq_true h18, h19, of_decide_eq_true h20, h21, of_decide_eq_true h22, h23, of_decide_eq_true h⟩
def fsK7 (K : PySem.W.Frag) (A : List Addr) : Bool := PySem.W.isFn K (.ref (A.getD 95 0)) && (decide (PySem.W.nsIn K mainGlobals "Rule" = some (some (.ref (A.getD 6 0)))) && (PySem.W.plainGet K (A.getD 6 0) Str.empty && (PySem.W.hasDictIn K (A.getD 6 0) && (PySem.W.plainOver K (A.getD 6 0) && (decide (PySem.W.findIn K (.ref (A.getD 6 0)) "__setattr__" = some (some (.builtin "object.__setattr__"))) && (PySem.W.makesIn K (A.getD 6 0) && (PySem.W.keepIn K (.ref (A.getD 6 0)) && (decide (PySem.W.findIn K (.ref (A.getD 6 0)) "__init__" = some (some (.builtin "object.__init__"))) && (decide (PySem.W.findIn K (.ref (A.getD 6 0)) "goes_ahead" = some (some (.ref (A.getD 96 0)))) && (PySem.W.isFn K (.ref (A.getD 96 0)) && (decide (PySem.W.findIn K (.ref (A.getD 6 0)) "choose" = some (some (.ref (A.getD 97 0)))) && (PySem.W.isFn K (.ref (A.getD 97 0)) && (decide (PySem.W.nsIn K mainGlobals "Fewest" = some (some (.ref (A.getD 7 0)))) && (PySem.W.plainGet K (A.getD 7 0) Str.empty && (PySem.W.hasDictIn K (A.getD 7 0) && (PySem.W.plainOver K (A.getD 7 0) && (decide (PySem.W.findIn K (.ref (A.getD 7 0)) "__setattr__" = some (some (.builtin "object.__setattr__"))) && (PySem.W.makesIn K (A.getD 7 0) && (PySem.W.keepIn K (.ref (A.getD 7 0)) && (decide (PySem.W.findIn K (.ref (A.getD 7 0)) "__init__" = some (some (.builtin "object.__init__"))) && (decide (PySem.W.findIn K (.ref (A.getD 7 0)) "goes_ahead" = some (some (.ref (A.getD 98 0)))) && (PySem.W.isFn K (.ref (A.getD 98 0)) && (decide (PySem.W.findIn K (.ref (A.getD 7 0)) "choose" = some (some (.ref (A.getD 97 0)))) && (decide (PySem.W.nsIn K mainGlobals "Eldest" = some (some (.ref (A.getD 8 0))))))))))))))))))))))))))))
theorem fsK7_ok {K : PySem.W.Frag} {A : List Addr} (h : fsK7 K A = true) : (PySem.W.isFn K (.ref (A.getD 95 0)) = true) ∧ (PySem.W.nsIn K mainGlobals "Rule" = some (some (.ref (A.getD 6 0)))) ∧ (PySem.W.plainGet K (A.getD 6 0) Str.empty = true) ∧ (PySem.W.hasDictIn K (A.getD 6 0) = true) ∧ (PySem.W.plainOver K (A.getD 6 0) = true) ∧ (PySem.W.findIn K (.ref (A.getD 6 0)) "__setattr__" = some (some (.builtin "object.__setattr__"))) ∧ (PySem.W.makesIn K (A.getD 6 0) = true) ∧ (PySem.W.keepIn K (.ref (A.getD 6 0)) = true) ∧ (PySem.W.findIn K (.ref (A.getD 6 0)) "__init__" = some (some (.builtin "object.__init__"))) ∧ (PySem.W.findIn K (.ref (A.getD 6 0)) "goes_ahead" = some (some (.ref (A.getD 96 0)))) ∧ (PySem.W.isFn K (.ref (A.getD 96 0)) = true) ∧ (PySem.W.findIn K (.ref (A.getD 6 0)) "choose" = some (some (.ref (A.getD 97 0)))) ∧ (PySem.W.isFn K (.ref (A.getD 97 0)) = true) ∧ (PySem.W.nsIn K mainGlobals "Fewest" = some (some (.ref (A.getD 7 0)))) ∧ (PySem.W.plainGet K (A.getD 7 0) Str.empty = true) ∧ (PySem.W.hasDictIn K (A.getD 7 0) = true) ∧ (PySem.W.plainOver K (A.getD 7 0) = true) ∧ (PySem.W.findIn K (.ref (A.getD 7 0)) "__setattr__" = some (some (.builtin "object.__setattr__"))) ∧ (PySem.W.makesIn K (A.getD 7 0) = true) ∧ (PySem.W.keepIn K (.ref (A.getD 7 0)) = true) ∧ (PySem.W.findIn K (.ref (A.getD 7 0)) "__init__" = some (some (.builtin "object.__init__"))) ∧ (PySem.W.findIn K (.ref (A.getD 7 0)) "goes_ahead" = some (some (.ref (A.getD 98 0)))) ∧ (PySem.W.isFn K (.ref (A.getD 98 0)) = true) ∧ (PySem.W.findIn K (.ref (A.getD 7 0)) "choose" = some (some (.ref (A.getD 97 0)))) ∧ (PySem.W.nsIn K mainGlobals "Eldest" = some (some (.ref (A.getD 8 0)))) := by
  unfold fsK7 at h
  obtain ⟨h0, h⟩ := He.ba h
  obtain ⟨h1, h⟩ := He.ba h
  obtain ⟨h2, h⟩ := He.ba h
  obtain ⟨h3, h⟩ := He.ba h
  obtain ⟨h4, h⟩ := He.ba h
  obtain ⟨h5, h⟩ := He.ba h
  obtain ⟨h6, h⟩ := He.ba h
  obtain ⟨h7, h⟩ := He.ba h
  obtain ⟨h8, h⟩ := He.ba h
  obtain ⟨h9, h⟩ := He.ba h
  obtain ⟨h10, h⟩ := He.ba h
  obtain ⟨h11, h⟩ := He.ba h
  obtain ⟨h12, h⟩ := He.ba h
  obtain ⟨h13, h⟩ := He.ba h
  obtain ⟨h14, h⟩ := He.ba h
  obtain ⟨h15, h⟩ := He.ba h
  obtain ⟨h16, h⟩ := He.ba h
  obtain ⟨h17, h⟩ := He.ba h
  obtain ⟨h18, h⟩ := He.ba h
  obtain ⟨h19, h⟩ := He.ba h
  obtain ⟨h20, h⟩ := He.ba h
  obtain ⟨h21, h⟩ := He.ba h
  obtain ⟨h22, h⟩ := He.ba h
  obtain ⟨h23, h⟩ := He.ba h
  exact ⟨h0, of_decide_eq_true h1, h2, h3, h4, of_decide_eq_true h5, h6, h7, of_decide_eq_true h8, of_decide_eq_true h9, h10, of_decide_eq_true h11, h12, of_decide_eq_true h13, h14, h15, h16, of_decide_eq_true h17, h18, h19, of_decide_eq_true h20, of_decide_eq_true h21, h22, of_decide_eq_true h23, of_decide_eq_true h⟩
def fsK8 (K : PySem.W.Frag) (A : List Addr) : Bool := PySem.W.plainGet K (A.getD 8 0) Str.empty && (PySem.W.hasDictIn K (A.getD 8 0) && (PySem.W.plainOver K (A.getD 8 0) && (decide (PySem.W.findIn K (.ref (A.getD 8 0)) "__setattr__" = some (some (.builtin "object.__setattr__"))) && (PySem.W.makesIn K (A.getD 8 0) && (PySem.W.keepIn K (.ref (A.getD 8 0)) && (decide (PySem.W.findIn K (.ref (A.getD 8 0)) "__init__" = some (some (.builtin "object.__init__"))) && (decide (PySem.W.findIn K (.ref (A.getD 8 0)) "goes_ahead" = some (some (.ref (A.getD 99 0)))) && (PySem.W.isFn K (.ref (A.getD 99 0)) && (decide (PySem.W.findIn K (.ref (A.getD 8 0)) "choose" = some (some (.ref (A.getD 97 0)))) && (decide (PySem.W.nsIn K mainGlobals "Terms" = some (some (.ref (A.getD 9 0)))) && (PySem.W.plainGet K (A.getD 9 0) Str.empty && (PySem.W.hasDictIn K (A.getD 9 0) && (PySem.W.plainOver K (A.getD 9 0) && (decide (PySem.W.findIn K (.ref (A.getD 9 0)) "__setattr__" = some (some (.builtin "object.__setattr__"))) && (decide (PySem.W.findIn K (.ref (A.getD 9 0)) "blocks" = some none) && (decide (PySem.W.findIn K (.ref (A.getD 9 0)) "pages" = some none) && (decide (PySem.W.findIn K (.ref (A.getD 9 0)) "sheets" = some none) && (decide (PySem.W.findIn K (.ref (A.getD 9 0)) "share" = some none) && (decide (PySem.W.findIn K (.ref (A.getD 9 0)) "ill" = some none) && (decide (PySem.W.findIn K (.ref (A.getD 9 0)) "spread" = some none) && (decide (PySem.W.findIn K (.ref (A.getD 9 0)) "__init__" = some (some (.ref (A.getD 100 0)))) && (PySem.W.isFn K (.ref (A.getD 100 0)) && (PySem.W.makesIn K (A.getD 9 0) && (PySem.W.keepIn K (.ref (A.getD 9 0))))))))))))))))))))))))))
theorem fsK8_ok {K : PySem.W.Frag} {A : List Addr} (h : fsK8 K A = true) : (PySem.W.plainGet K (A.getD 8 0) Str.empty = true) ∧ (PySem.W.hasDictIn K (A.getD 8 0) = true) ∧ (PySem.W.plainOver K (A.getD 8 0) = true) ∧ (PySem.W.findIn K (.ref (A.getD 8 0)) "__setattr__" = some (some (.builtin "object.__setattr__"))) ∧ (PySem.W.makesIn K (A.getD 8 0) = true) ∧ (PySem.W.keepIn K (.ref (A.getD 8 0)) = true) ∧ (PySem.W.findIn K (.ref (A.getD 8 0)) "__init__" = some (some (.builtin "object.__init__"))) ∧ (PySem.W.findIn K (.ref (A.getD 8 0)) "goes_ahead" = some (some (.ref (A.getD 99 0)))) ∧ (PySem.W.isFn K (.ref (A.getD 99 0)) = true) ∧ (PySem.W.findIn K (.ref (A.getD 8 0)) "choose" = some (some (.ref (A.getD 97 0)))) ∧ (PySem.W.nsIn K mainGlobals "Terms" = some (some (.ref (A.getD 9 0)))) ∧ (PySem.W.plainGet K (A.getD 9 0) Str.empty = true) ∧ (PySem.W.hasDictIn K (A.getD 9 0) = true) ∧ (PySem.W.plainOver K (A.getD 9 0) = true) ∧ (PySem.W.findIn K (.ref (A.getD 9 0)) "__setattr__" = some (some (.builtin "object.__setattr__"))) ∧ (PySem.W.findIn K (.ref (A.getD 9 0)) "blocks" = some none) ∧ (PySem.W.findIn K (.ref (A.getD 9 0)) "pages" = some none) ∧ (PySem.W.findIn K (.ref (A.getD 9 0)) "sheets" = some none) ∧ (PySem.W.findIn K (.ref (A.getD 9 0)) "share" = some none) ∧ (PySem.W.findIn K (.ref (A.getD 9 0)) "ill" = some none) ∧ (PySem.W.findIn K (.ref (A.getD 9 0)) "spread" = some none) ∧ (PySem.W.findIn K (.ref (A.getD 9 0)) "__init__" = some (some (.ref (A.getD 100 0)))) ∧ (PySem.W.isFn K (.ref (A.getD 100 0)) = true) ∧ (PySem.W.makesIn K (A.getD 9 0) = true) ∧ (PySem.W.keepIn K (.ref (A.getD 9 0)) = true) := by
  unfold fsK8 at h
  obtain ⟨h0, h⟩ := He.ba h
  obtain ⟨h1, h⟩ := He.ba h
  obtain ⟨h2, h⟩ := He.ba h
  obtain ⟨h3, h⟩ := He.ba h
  obtain ⟨h4, h⟩ := He.ba h
  obtain ⟨h5, h⟩ := He.ba h
  obtain ⟨h6, h⟩ := He.ba h
  obtain ⟨h7, h⟩ := He.ba h
  obtain ⟨h8, h⟩ := He.ba h
  obtain ⟨h9, h⟩ := He.ba h
  obtain ⟨h10, h⟩ := He.ba h
  obtain ⟨h11, h⟩ := He.ba h
  obtain ⟨h12, h⟩ := He.ba h
  obtain ⟨h13, h⟩ := He.ba h
  obtain ⟨h14, h⟩ := He.ba h
  obtain ⟨h15, h⟩ := He.ba h
  obtain ⟨h16, h⟩ := He.ba h
  obtain ⟨h17, h⟩ := He.ba h
  obtain ⟨h18, h⟩ := He.ba h
  obtain ⟨h19, h⟩ := He.ba h
  obtain ⟨h20, h⟩ := He.ba h
  obtain ⟨h21, h⟩ := He.ba h
  obtain ⟨h22, h⟩ := He.ba h
  obtain ⟨h23, h⟩ := He.ba h
  exact ⟨h0, h1, h2, of_decide_eq_true h3, h4, h5, of_decide_eq_true h6, of_decide_eq_true h7, h8, of_decide_eq_true h9, of_decide_eq_true h10, h11, h12, h13, of_decide_eq_true h14, of_decide_eq_true h15, of_decide_eq_true h16, of_decide_eq_true h17, of_decide_eq_true h18, of_decide_eq_true h19, of_decide_eq_true h20, of_decide_eq_true h21, h22, h23, h⟩
def fsK9 (K : PySem.W.Frag) (A : List Addr) : Bool := decide (PySem.W.findIn K (.ref (A.getD 9 0)) "closed" = some (some (.ref (A.getD 101 0)))) && (PySem.W.isFn K (.ref (A.getD 101 0)) && (decide (PySem.W.nsIn K mainGlobals "WornError" = some (some (.ref (A.getD 10 0)))) && (PySem.W.excIn K (A.getD 10 0) [.type "ValueError", .type "Exception", .type "BaseException", .type "object"] "ValueError.__new__" && (PySem.W.keepIn K (.ref (A.getD 10 0)) && (decide (PySem.W.subIn K (.ref (A.getD 10 0)) (.type "BaseException") = some true) && (decide (PySem.W.typeIn K (.ref (A.getD 10 0)) = some (.type "type")) && (decide (PySem.W.nsIn K mainGlobals "NoChip" = some (some (.ref (A.getD 11 0)))) && (PySem.W.excIn K (A.getD 11 0) [.type "ValueError", .type "Exception", .type "BaseException", .type "object"] "ValueError.__new__" && (PySem.W.keepIn K (.ref (A.getD 11 0)) && (decide (PySem.W.subIn K (.ref (A.getD 11 0)) (.type "BaseException") = some true) && (decide (PySem.W.typeIn K (.ref (A.getD 11 0)) = some (.type "type")) && (decide (PySem.W.nsIn K mainGlobals "NoPlace" = some (some (.ref (A.getD 12 0)))) && (PySem.W.excIn K (A.getD 12 0) [.type "ValueError", .type "Exception", .type "BaseException", .type "object"] "ValueError.__new__" && (PySem.W.keepIn K (.ref (A.getD 12 0)) && (decide (PySem.W.subIn K (.ref (A.getD 12 0)) (.type "BaseException") = some true) && (decide (PySem.W.typeIn K (.ref (A.getD 12 0)) = some (.type "type")) && (decide (PySem.W.nsIn K mainGlobals "PowerGone" = some (some (.ref (A.getD 13 0)))) && (PySem.W.excIn K (A.getD 13 0) [.type "ValueError", .type "Exception", .type "BaseException", .type "object"] "ValueError.__new__" && (PySem.W.keepIn K (.ref (A.getD 13 0)) && (decide (PySem.W.subIn K (.ref (A.getD 13 0)) (.type "BaseException") = some true) && (decide (PySem.W.typeIn K (.ref (A.getD 13 0)) = some (.type "type")) && (decide (PySem.W.nsIn K mainGlobals "BlockFailed" = some (some (.ref (A.getD 14 0)))) && (oexB K (A.getD 14 0) && (decide (PySem.W.findIn K (.ref (A.getD 14 0)) "__setattr__" = some (some (.builtin "object.__setattr__")))))))))))))))))))))))))))
theorem fsK9_ok {K : PySem.W.Frag} {A : List Addr} (h : fsK9 K A = true) : (PySem.W.findIn K (.ref (A.getD 9 0)) "closed" = some (some (.ref (A.getD 101 0)))) ∧ (PySem.W.isFn K (.ref (A.getD 101 0)) = true) ∧ (PySem.W.nsIn K mainGlobals "WornError" = some (some (.ref (A.getD 10 0)))) ∧ (PySem.W.excIn K (A.getD 10 0) [.type "ValueError", .type "Exception", .type "BaseException", .type "object"] "ValueError.__new__" = true) ∧ (PySem.W.keepIn K (.ref (A.getD 10 0)) = true) ∧ (PySem.W.subIn K (.ref (A.getD 10 0)) (.type "BaseException") = some true) ∧ (PySem.W.typeIn K (.ref (A.getD 10 0)) = some (.type "type")) ∧ (PySem.W.nsIn K mainGlobals "NoChip" = some (some (.ref (A.getD 11 0)))) ∧ (PySem.W.excIn K (A.getD 11 0) [.type "ValueError", .type "Exception", .type "BaseException", .type "object"] "ValueError.__new__" = true) ∧ (PySem.W.keepIn K (.ref (A.getD 11 0)) = true) ∧ (PySem.W.subIn K (.ref (A.getD 11 0)) (.type "BaseException") = some true) ∧ (PySem.W.typeIn K (.ref (A.getD 11 0)) = some (.type "type")) ∧ (PySem.W.nsIn K mainGlobals "NoPlace" = some (some (.ref (A.getD 12 0)))) ∧ (PySem.W.excIn K (A.getD 12 0) [.type "ValueError", .type "Exception", .type "BaseException", .type "object"] "ValueError.__new__" = true) ∧ (PySem.W.keepIn K (.ref (A.getD 12 0)) = true) ∧ (PySem.W.subIn K (.ref (A.getD 12 0)) (.type "BaseException") = some true) ∧ (PySem.W.typeIn K (.ref (A.getD 12 0)) = some (.type "type")) ∧ (PySem.W.nsIn K mainGlobals "PowerGone" = some (some (.ref (A.getD 13 0)))) ∧ (PySem.W.excIn K (A.getD 13 0) [.type "ValueError", .type "Exception", .type "BaseException", .type "object"] "ValueError.__new__" = true) ∧ (PySem.W.keepIn K (.ref (A.getD 13 0)) = true) ∧ (PySem.W.subIn K (.ref (A.getD 13 0)) (.type "BaseException") = some true) ∧ (PySem.W.typeIn K (.ref (A.getD 13 0)) = some (.type "type")) ∧ (PySem.W.nsIn K mainGlobals "BlockFailed" = some (some (.ref (A.getD 14 0)))) ∧ (oexB K (A.getD 14 0) = true) ∧ (PySem.W.findIn K (.ref (A.getD 14 0)) "__setattr__" = some (some (.builtin "object.__setattr__"))) := by
  unfold fsK9 at h
  obtain ⟨h0, h⟩ := He.ba h
  obtain ⟨h1, h⟩ := He.ba h
  obtain ⟨h2, h⟩ := He.ba h
  obtain ⟨h3, h⟩ := He.ba h
  obtain ⟨h4, h⟩ := He.ba h
  obtain ⟨h5, h⟩ := He.ba h
  obtain ⟨h6, h⟩ := He.ba h
  obtain ⟨h7, h⟩ := He.ba h
  obtain ⟨h8, h⟩ := He.ba h
  obtain ⟨h9, h⟩ := He.ba h
  obtain ⟨h10, h⟩ := He.ba h
  obtain ⟨h11, h⟩ := He.ba h
  obtain ⟨h12, h⟩ := He.ba h
  obtain ⟨h13, h⟩ := He.ba h
  obtain ⟨h14, h⟩ := He.ba h
  obtain ⟨h15, h⟩ := He.ba h
  obtain ⟨h16, h⟩ := He.ba h
  obtain ⟨h17, h⟩ := He.ba h
  obtain ⟨h18, h⟩ := He.ba h
  obtain ⟨h19, h⟩ := He.ba h
  obtain ⟨h20, h⟩ := He.ba h
  obtain ⟨h21, h⟩ := He.ba h
  obtain ⟨h22, h⟩ := He.ba h
  obtain ⟨h23, h⟩ := He.ba h
  exact ⟨of_decide_eq_true h0, h1, of_decide_eq_true h2, h3, h4, of_decide_eq_true h5, of_decide_eq_true h6, of_decide_eq_true h7, h8, h9, of_decide_eq_true h10, of_decide_eq_true h11, of_decide_eq_true h12, h13, h14, of_decide_eq_true h15, of_decide_eq_true h16, of_decide_eq_true h17, h18, h19, of_decide_eq_true h20, of_decide_eq_true h21, of_decide_eq_true h22, h23, of_decide_eq_true h⟩
def fsK10 (K : PySem.W.Frag) (A : List Addr) : Bool := decide (PySem.W.subIn K (.ref (A.getD 14 0)) (.type "BaseException") = some true) && (decide (PySem.W.typeIn K (.ref (A.getD 14 0)) = some (.type "type")) && (PySem.W.keepIn K (.ref (A.getD 14 0)) && (decide (PySem.W.findIn K (.ref (A.getD 14 0)) "__init__" = some (some (.ref (A.getD 40 0)))) && (decide (PySem.W.typeIn K (.ref (A.getD 40 0)) = some (.type "function")) && (xfB K (A.getD 14 0) && (decide (PySem.W.findIn K (.ref (A.getD 14 0)) "block" = some none) && (decide (PySem.W.nsIn K mainGlobals "NotClear" = some (some (.ref (A.getD 15 0)))) && (oexB K (A.getD 15 0) && (decide (PySem.W.findIn K (.ref (A.getD 15 0)) "__setattr__" = some (some (.builtin "object.__setattr__"))) && (decide (PySem.W.subIn K (.ref (A.getD 15 0)) (.type "BaseException") = some true) && (decide (PySem.W.typeIn K (.ref (A.getD 15 0)) = some (.type "type")) && (PySem.W.keepIn K (.ref (A.getD 15 0)) && (decide (PySem.W.findIn K (.ref (A.getD 15 0)) "__init__" = some (some (.ref (A.getD 41 0)))) && (decide (PySem.W.typeIn K (.ref (A.getD 41 0)) = some (.type "function")) && (xfB K (A.getD 15 0) && (decide (PySem.W.findIn K (.ref (A.getD 15 0)) "page" = some none) && (decide (PySem.W.nsIn K mainGlobals "NoTerms" = some (some (.ref (A.getD 16 0)))) && (PySem.W.excIn K (A.getD 16 0) [.type "ValueError", .type "Exception", .type "BaseException", .type "object"] "ValueError.__new__" && (PySem.W.keepIn K (.ref (A.getD 16 0)) && (decide (PySem.W.subIn K (.ref (A.getD 16 0)) (.type "BaseException") = some true) && (decide (PySem.W.typeIn K (.ref (A.getD 16 0)) = some (.type "type")) && (decide (PySem.W.nsIn K mainGlobals "NoSheet" = some (some (.ref (A.getD 17 0)))) && (PySem.W.excIn K (A.getD 17 0) [.type "ValueError", .type "Exception", .type "BaseException", .type "object"] "ValueError.__new__" && (PySem.W.keepIn K (.ref (A.getD 17 0))))))))))))))))))))))))))
theorem fsK10_ok {K : PySem.W.Frag} {A : List Addr} (h : fsK10 K A = true) : (PySem.W.subIn K (.ref (A.getD 14 0)) (.type "BaseException") = some true) ∧ (PySem.W.typeIn K (.ref (A.getD 14 0)) = some (.type "type")) ∧ (PySem.W.keepIn K (.ref (A.getD 14 0)) = true) ∧ (PySem.W.findIn K (.ref (A.getD 14 0)) "__init__" = some (some (.ref (A.getD 40 0)))) ∧ (PySem.W.typeIn K (.ref (A.getD 40 0)) = some (.type "function")) ∧ (xfB K (A.getD 14 0) = true) ∧ (PySem.W.findIn K (.ref (A.getD 14 0)) "block" = some none) ∧ (PySem.W.nsIn K mainGlobals "NotClear" = some (some (.ref (A.getD 15 0)))) ∧ (oexB K (A.getD 15 0) = true) ∧ (PySem.W.findIn K (.ref (A.getD 15 0)) "__setattr__" = some (some (.builtin "object.__setattr__"))) ∧ (PySem.W.subIn K (.ref (A.getD 15 0)) (.type "BaseException") = some true) ∧ (PySem.W.typeIn K (.ref (A.getD 15 0)) = some (.type "type")) ∧ (PySem.W.keepIn K (.ref (A.getD 15 0)) = true) ∧ (PySem.W.findIn K (.ref (A.getD 15 0)) "__init__" = some (some (.ref (A.getD 41 0)))) ∧ (PySem.W.typeIn K (.ref (A.getD 41 0)) = some (.type "function")) ∧ (xfB K (A.getD 15 0) = true) ∧ (PySem.W.findIn K (.ref (A.getD 15 0)) "page" = some none) ∧ (PySem.W.nsIn K mainGlobals "NoTerms" = some (some (.ref (A.getD 16 0)))) ∧ (PySem.W.excIn K (A.getD 16 0) [.type "ValueError", .type "Exception", .type "BaseException", .type "object"] "ValueError.__new__" = true) ∧ (PySem.W.keepIn K (.ref (A.getD 16 0)) = true) ∧ (PySem.W.subIn K (.ref (A.getD 16 0)) (.type "BaseException") = some true) ∧ (PySem.W.typeIn K (.ref (A.getD 16 0)) = some (.type "type")) ∧ (PySem.W.nsIn K mainGlobals "NoSheet" = some (some (.ref (A.getD 17 0)))) ∧ (PySem.W.excIn K (A.getD 17 0) [.type "ValueError", .type "Exception", .type "BaseException", .type "object"] "ValueError.__new__" = true) ∧ (PySem.W.keepIn K (.ref (A.getD 17 0)) = true) := by
  unfold fsK10 at h
  obtain ⟨h0, h⟩ := He.ba h
  obtain ⟨h1, h⟩ := He.ba h
  obtain ⟨h2, h⟩ := He.ba h
  obtain ⟨h3, h⟩ := He.ba h
  obtain ⟨h4, h⟩ := He.ba h
  obtain ⟨h5, h⟩ := He.ba h
  obtain ⟨h6, h⟩ := He.ba h
  obtain ⟨h7, h⟩ := He.ba h
  obtain ⟨h8, h⟩ := He.ba h
  obtain ⟨h9, h⟩ := He.ba h
  obtain ⟨h10, h⟩ := He.ba h
  obtain ⟨h11, h⟩ := He.ba h
  obtain ⟨h12, h⟩ := He.ba h
  obtain ⟨h13, h⟩ := He.ba h
  obtain ⟨h14, h⟩ := He.ba h
  obtain ⟨h15, h⟩ := He.ba h
  obtain ⟨h16, h⟩ := He.ba h
  obtain ⟨h17, h⟩ := He.ba h
  obtain ⟨h18, h⟩ := He.ba h
  obtain ⟨h19, h⟩ := He.ba h
  obtain ⟨h20, h⟩ := He.ba h
  obtain ⟨h21, h⟩ := He.ba h
  obtain ⟨h22, h⟩ := He.ba h
  obtain ⟨h23, h⟩ := He.ba h
  exact ⟨of_decide_eq_true h0, of_decide_eq_true h1, h2, of_decide_eq_true h3, of_decide_eq_true h4, h5, of_decide_eq_true h6, of_decide_eq_true h7, h8, of_decide_eq_true h9, of_decide_eq_true h10, of_decide_eq_true h11, h12, of_decide_eq_true h13, of_decide_eq_true h14, h15, of_decide_eq_true h16, of_decide_eq_true h17, h18, h19, of_decide_eq_true h20, of_decide_eq_true h21, of_decide_eq_true h22, h23, h⟩
def fsK11 (K : PySem.W.Frag) (A : List Addr) : Bool := decide (PySem.W.subIn K (.ref (A.getD 17 0)) (.type "BaseException") = some true) && (decide (PySem.W.typeIn K (.ref (A.getD 17 0)) = some (.type "type")) && (decide (PySem.W.nsIn K mainGlobals "NoValue" = some (some (.ref (A.getD 18 0)))) && (PySem.W.excIn K (A.getD 18 0) [.type "ValueError", .type "Exception", .type "BaseException", .type "object"] "ValueError.__new__" && (PySem.W.keepIn K (.ref (A.getD 18 0)) && (decide (PySem.W.subIn K (.ref (A.getD 18 0)) (.type "BaseException") = some true) && (decide (PySem.W.typeIn K (.ref (A.getD 18 0)) = some (.type "type")) && (decide (PySem.W.nsIn K mainGlobals "Full" = some (some (.ref (A.getD 19 0)))) && (PySem.W.excIn K (A.getD 19 0) [.type "ValueError", .type "Exception", .type "BaseException", .type "object"] "ValueError.__new__" && (PySem.W.keepIn K (.ref (A.getD 19 0)) && (decide (PySem.W.subIn K (.ref (A.getD 19 0)) (.type "BaseException") = some true) && (decide (PySem.W.typeIn K (.ref (A.getD 19 0)) = some (.type "type")) && (decide (PySem.W.nsIn K mainGlobals "NoRoom" = some (some (.ref (A.getD 20 0)))) && (PySem.W.excIn K (A.getD 20 0) [.type "ValueError", .type "Exception", .type "BaseException", .type "object"] "ValueError.__new__" && (PySem.W.keepIn K (.ref (A.getD 20 0)) && (decide (PySem.W.subIn K (.ref (A.getD 20 0)) (.type "BaseException") = some true) && (decide (PySem.W.typeIn K (.ref (A.getD 20 0)) = some (.type "type")) && (decide (PySem.W.specialIn K (.ref (A.getD 10 0)) "__getattribute__" = some (some (.builtin "type.__getattribute__"))) && (PySem.W.readsIn K (A.getD 10 0) (.type "type") && (fclB (PySem.W.findCls K (.ref (A.getD 10 0)) (.type "type") "__init__") (.builtin "ValueError.__init__") && (decide (PySem.W.specialIn K (.ref (A.getD 3 0)) "__getattribute__" = some (some (.builtin "type.__getattribute__"))) && (PySem.W.readsIn K (A.getD 3 0) (.type "type") && (fclB (PySem.W.findCls K (.ref (A.getD 3 0)) (.type "type") "__init__") (.ref (A.getD 54 0)) && (decide (PySem.W.findIn K (.ref (A.getD 4 0)) "__class__" = some (some (.builtin "object.__class__"))) && (decide (PySem.W.specialIn K (.builtin "object.__class__") "__get__" = some (some (.builtin "getset_descriptor.__get__")))))))))))))))))))))))))))
theorem fsK11_ok {K : PySem.W.Frag} {A : List Addr} (h : fsK11 K A = true) : (PySem.W.subIn K (.ref (A.getD 17 0)) (.type "BaseException") = some true) ∧ (PySem.W.typeIn K (.ref (A.getD 17 0)) = some (.type "type")) ∧ (PySem.W.nsIn K mainGlobals "NoValue" = some (some (.ref (A.getD 18 0)))) ∧ (PySem.W.excIn K (A.getD 18 0) [.type "ValueError", .type "Exception", .type "BaseException", .type "object"] "ValueError.__new__" = true) ∧ (PySem.W.keepIn K (.ref (A.getD 18 0)) = true) ∧ (PySem.W.subIn K (.ref (A.getD 18 0)) (.type "BaseException") = some true) ∧ (PySem.W.typeIn K (.ref (A.getD 18 0)) = some (.type "type")) ∧ (PySem.W.nsIn K mainGlobals "Full" = some (some (.ref (A.getD 19 0)))) ∧ (PySem.W.excIn K (A.getD 19 0) [.type "ValueError", .type "Exception", .type "BaseException", .type "object"] "ValueError.__new__" = true) ∧ (PySem.W.keepIn K (.ref (A.getD 19 0)) = true) ∧ (PySem.W.subIn K (.ref (A.getD 19 0)) (.type "BaseException") = some true) ∧ (PySem.W.typeIn K (.ref (A.getD 19 0)) = some (.type "type")) ∧ (PySem.W.nsIn K mainGlobals "NoRoom" = some (some (.ref (A.getD 20 0)))) ∧ (PySem.W.excIn K (A.getD 20 0) [.type "ValueError", .type "Exception", .type "BaseException", .type "object"] "ValueError.__new__" = true) ∧ (PySem.W.keepIn K (.ref (A.getD 20 0)) = true) ∧ (PySem.W.subIn K (.ref (A.getD 20 0)) (.type "BaseException") = some true) ∧ (PySem.W.typeIn K (.ref (A.getD 20 0)) = some (.type "type")) ∧ (PySem.W.specialIn K (.ref (A.getD 10 0)) "__getattribute__" = some (some (.builtin "type.__getattribute__"))) ∧ (PySem.W.readsIn K (A.getD 10 0) (.type "type") = true) ∧ (fclB (PySem.W.findCls K (.ref (A.getD 10 0)) (.type "type") "__init__") (.builtin "ValueError.__init__") = true) ∧ (PySem.W.specialIn K (.ref (A.getD 3 0)) "__getattribute__" = some (some (.builtin "type.__getattribute__"))) ∧ (PySem.W.readsIn K (A.getD 3 0) (.type "type") = true) ∧ (fclB (PySem.W.findCls K (.ref (A.getD 3 0)) (.type "type") "__init__") (.ref (A.getD 54 0)) = true) ∧ (PySem.W.findIn K (.ref (A.getD 4 0)) "__class__" = some (some (.builtin "object.__class__"))) ∧ (PySem.W.specialIn K (.builtin "object.__class__") "__get__" = some (some (.builtin "getset_descriptor.__get__"))) := by
  unfold fsK11 at h
  obtain ⟨h0, h⟩ := He.ba h
  obtain ⟨h1, h⟩ := He.ba h
  obtain ⟨h2, h⟩ := He.ba h
  obtain ⟨h3, h⟩ := He.ba h
  obtain ⟨h4, h⟩ := He.ba h
  obtain ⟨h5, h⟩ := He.ba h
  obtain ⟨h6, h⟩ := He.ba h
  obtain ⟨h7, h⟩ := He.ba h
  obtain ⟨h8, h⟩ := He.ba h
  obtain ⟨h9, h⟩ := He.ba h
  obtain ⟨h10, h⟩ := He.ba h
  obtain ⟨h11, h⟩ := He.ba h
  obtain ⟨h12, h⟩ := He.ba h
  obtain ⟨h13, h⟩ := He.ba h
  obtain ⟨h14, h⟩ := He.ba h
  obtain ⟨h15, h⟩ := He.ba h
  obtain ⟨h16, h⟩ := He.ba h
  obtain ⟨h17, h⟩ := He.ba h
  obtain ⟨h18, h⟩ := He.ba h
  obtain ⟨h19, h⟩ := He.ba h
  obtain ⟨h20, h⟩ := He.ba h
  obtain ⟨h21, h⟩ := He.ba h
  obtain ⟨h22, h⟩ := He.ba h
  obtain ⟨h23, h⟩ := He.ba h
  exact ⟨of_decide_eq_true h0, of_decide_eq_true h1, of_decide_eq_true h2, h3, h4, of_decide_eq_true h5, of_decide_eq_true h6, of_decide_eq_true h7, h8, h9, of_decide_eq_true h10, of_decide_eq_true h11, of_decide_eq_true h12, h13, h14, of_decide_eq_true h15, of_decide_eq_true h16, of_decide_eq_true h17, h18, h19, of_decide_eq_true h20, h21, h22, of_decide_eq_true h23, of_decide_eq_true h⟩
def fsK12 (K : PySem.W.Frag) (A : List Addr) : Bool := decide (PySem.W.takesIn K (.builtin "object.__class__") = some true) && (decide (PySem.W.mroIn K (A.getD 4 0) (.type "object") = some true) && (decide (PySem.W.kitOne K (.ref (A.getD 4 0)) (.ref (A.getD 3 0)) = some true) && (decide (PySem.W.exmOne K (.ref (A.getD 20 0)) (.ref (A.getD 20 0)) = some true) && (decide (PySem.W.exmOne K (.ref (A.getD 20 0)) (.ref (A.getD 10 0)) = some true) && (decide (PySem.W.exmOne K (.ref (A.getD 16 0)) (.ref (A.getD 20 0)) = some false) && (decide (PySem.W.exmOne K (.ref (A.getD 16 0)) (.ref (A.getD 10 0)) = some true) && (decide (PySem.W.exmOne K (.ref (A.getD 17 0)) (.ref (A.getD 20 0)) = some false) && (decide (PySem.W.exmOne K (.ref (A.getD 17 0)) (.ref (A.getD 10 0)) = some true) && (decide (PySem.W.exmOne K (.ref (A.getD 18 0)) (.ref (A.getD 20 0)) = some false) && (decide (PySem.W.exmOne K (.ref (A.getD 18 0)) (.ref (A.getD 10 0)) = some true) && (decide (PySem.W.exmOne K (.ref (A.getD 19 0)) (.ref (A.getD 20 0)) = some false) && (decide (PySem.W.exmOne K (.ref (A.getD 19 0)) (.ref (A.getD 10 0)) = some true) && (decide (PySem.W.exmOne K (.ref (A.getD 11 0)) (.ref (A.getD 20 0)) = some false) && (decide (PySem.W.exmOne K (.ref (A.getD 11 0)) (.ref (A.getD 10 0)) = some true) && (decide (PySem.W.exmOne K (.ref (A.getD 12 0)) (.ref (A.getD 20 0)) = some false) && (decide (PySem.W.exmOne K (.ref (A.getD 12 0)) (.ref (A.getD 10 0)) = some true) && (decide (PySem.W.exmOne K (.ref (A.getD 13 0)) (.ref (A.getD 20 0)) = some false) && (decide (PySem.W.exmOne K (.ref (A.getD 13 0)) (.ref (A.getD 10 0)) = some true) && (decide (PySem.W.exmOne K (.ref (A.getD 14 0)) (.ref (A.getD 20 0)) = some false) && (decide (PySem.W.exmOne K (.ref (A.getD 14 0)) (.ref (A.getD 10 0)) = some true) && (decide (PySem.W.exmOne K (.ref (A.getD 15 0)) (.ref (A.getD 20 0)) = some false) && (decide (PySem.W.exmOne K (.ref (A.getD 15 0)) (.ref (A.getD 10 0)) = some true) && (decide (PySem.W.findIn K (.ref (A.getD 20 0)) "__getattribute__" = some (some (.builtin "BaseException.__getattribute__"))) && (decide (PySem.W.findIn K (.ref (A.getD 20 0)) "__getattr__" = some none)))))))))))))))))))))))))
theorem fsK12_ok {K : PySem.W.Frag} {A : List Addr} (h : fsK12 K A = true) : (PySem.W.takesIn K (.builtin "object.__class__") = some true) ∧ (PySem.W.mroIn K (A.getD 4 0) (.type "object") = some true) ∧ (PySem.W.kitOne K (.ref (A.getD 4 0)) (.ref (A.getD 3 0)) = some true) ∧ (PySem.W.exmOne K (.ref (A.getD 20 0)) (.ref (A.getD 20 0)) = some true) ∧ (PySem.W.exmOne K (.ref (A.getD 20 0)) (.ref (A.getD 10 0)) = some true) ∧ (PySem.W.exmOne K (.ref (A.getD 16 0)) (.ref (A.getD 20 0)) = some false) ∧ (PySem.W.exmOne K (.ref (A.getD 16 0)) (.ref (A.getD 10 0)) = some true) ∧ (PySem.W.exmOne K (.ref (A.getD 17 0)) (.ref (A.getD 20 0)) = some false) ∧ (PySem.W.exmOne K (.ref (A.getD 17 0)) (.ref (A.getD 10 0)) = some true) ∧ (PySem.W.exmOne K (.ref (A.getD 18 0)) (.ref (A.getD 20 0)) = some false) ∧ (PySem.W.exmOne K (.ref (A.getD 18 0)) (.ref (A.getD 10 0)) = some true) ∧ (PySem.W.exmOne K (.ref (A.getD 19 0)) (.ref (A.getD 20 0)) = some false) ∧ (PySem.W.exmOne K (.ref (A.getD 19 0)) (.ref (A.getD 10 0)) = some true) ∧ (PySem.W.exmOne K (.ref (A.getD 11 0)) (.ref (A.getD 20 0)) = some false) ∧ (PySem.W.exmOne K (.ref (A.getD 11 0)) (.ref (A.getD 10 0)) = some true) ∧ (PySem.W.exmOne K (.ref (A.getD 12 0)) (.ref (A.getD 20 0)) = some false) ∧ (PySem.W.exmOne K (.ref (A.getD 12 0)) (.ref (A.getD 10 0)) = some true) ∧ (PySem.W.exmOne K (.ref (A.getD 13 0)) (.ref (A.getD 20 0)) = some false) ∧ (PySem.W.exmOne K (.ref (A.getD 13 0)) (.ref (A.getD 10 0)) = some true) ∧ (PySem.W.exmOne K (.ref (A.getD 14 0)) (.ref (A.getD 20 0)) = some false) ∧ (PySem.W.exmOne K (.ref (A.getD 14 0)) (.ref (A.getD 10 0)) = some true) ∧ (PySem.W.exmOne K (.ref (A.getD 15 0)) (.ref (A.getD 20 0)) = some false) ∧ (PySem.W.exmOne K (.ref (A.getD 15 0)) (.ref (A.getD 10 0)) = some true) ∧ (PySem.W.findIn K (.ref (A.getD 20 0)) "__getattribute__" = some (some (.builtin "BaseException.__getattribute__"))) ∧ (PySem.W.findIn K (.ref (A.getD 20 0)) "__getattr__" = some none) := by
  unfold fsK12 at h
  obtain ⟨h0, h⟩ := He.ba h
  obtain ⟨h1, h⟩ := He.ba h
  obtain ⟨h2, h⟩ := He.ba h
  obtain ⟨h3, h⟩ := He.ba h
  obtain ⟨h4, h⟩ := He.ba h
  obtain ⟨h5, h⟩ := He.ba h
  obtain ⟨h6, h⟩ := He.ba h
  obtain ⟨h7, h⟩ := He.ba h
  obtain ⟨h8, h⟩ := He.ba h
  obtain ⟨h9, h⟩ := He.ba h
  obtain ⟨h10, h⟩ := He.ba h
  obtain ⟨h11, h⟩ := He.ba h
  obtain ⟨h12, h⟩ := He.ba h
  obtain ⟨h13, h⟩ := He.ba h
  obtain ⟨h14, h⟩ := He.ba h
  obtain ⟨h15, h⟩ := He.ba h
  obtain ⟨h16, h⟩ := He.ba h
  obtain ⟨h17, h⟩ := He.ba h
  obtain ⟨h18, h⟩ := He.ba h
  obtain ⟨h19, h⟩ := He.ba h
  obtain ⟨h20, h⟩ := He.ba h
  obtain ⟨h21, h⟩ := He.ba h
  obtain ⟨h22, h⟩ := He.ba h
  obtain ⟨h23, h⟩ := He.ba h
  exact ⟨of_decide_eq_true h0, of_decide_eq_true h1, of_decide_eq_true h2, of_decide_eq_true h3, of_decide_eq_true h4, of_decide_eq_true h5, of_decide_eq_true h6, of_decide_eq_true h7, of_decide_eq_true h8, of_decide_eq_true h9, of_decide_eq_true h10, of_decide_eq_true h11, of_decide_eq_true h12, of_decide_eq_true h13, of_decide_eq_true h14, of_decide_eq_true h15, of_decide_eq_true h16, of_decide_eq_true h17, of_decide_eq_true h18, of_decide_eq_true h19, of_decide_eq_true h20, of_decide_eq_true h21, of_decide_eq_true h22, of_decide_eq_true h23, of_decide_eq_true h⟩
def fsK13 (K : PySem.W.Frag) (A : List Addr) : Bool := decide (PySem.W.subIn K (.ref (A.getD 20 0)) (.type "BaseException") = some true) && (PySem.W.hasDictIn K (A.getD 20 0) && (decide (PySem.W.findIn K (.ref (A.getD 20 0)) "__class__" = some (some (.builtin "object.__class__"))) && (decide (PySem.W.specialIn K (.builtin "object.__class__") "__get__" = some (some (.builtin "getset_descriptor.__get__"))) && (decide (PySem.W.takesIn K (.builtin "object.__class__") = some true) && (decide (PySem.W.mroIn K (A.getD 20 0) (.type "object") = some true) && (decide (PySem.W.kitOne K (.ref (A.getD 20 0)) (.type "ValueError") = some true) && (decide (PySem.W.kitOne K (.ref (A.getD 20 0)) (.ref (A.getD 20 0)) = some true) && (decide (PySem.W.nsIn K mainGlobals "len" = some none) && (decide (PySem.W.nsIn K mainGlobals "isinstance" = some none) && (decide (PySem.W.nsIn K mainGlobals "min" = some none) && (decide (PySem.W.nsIn K mainGlobals "max" = some none) && (decide (PySem.W.nsIn K mainGlobals "sorted" = some none) && (decide (PySem.W.nsIn K mainGlobals "int" = some none) && (decide (PySem.W.nsIn K mainGlobals "str" = some none) && (decide (PySem.W.nsIn K mainGlobals "list" = some none) && (decide (PySem.W.nsIn K mainGlobals "tuple" = some none) && (decide (PySem.W.nsIn K mainGlobals "bool" = some none) && (decide (PySem.W.nsIn K mainGlobals "range" = some none) && (decide (PySem.W.nsIn K mainGlobals "zip" = some none) && (decide (PySem.W.nsIn K mainGlobals "ValueError" = some none) && (decide (PySem.W.nsIn K mainGlobals "ROLL" = some (some (gvK K "ROLL"))) && (He.relB (V.int (64)) (gvK K "ROLL") && (decide (PySem.W.nsIn K mainGlobals "MANY" = some (some (gvK K "MANY"))) && (He.relB (V.int (16)) (gvK K "MANY")))))))))))))))))))))))))
theorem fsK13_ok {K : PySem.W.Frag} {A : List Addr} (h : fsK13 K A = true) : (PySem.W.subIn K (.ref (A.getD 20 0)) (.type "BaseException") = some true) ∧ (PySem.W.hasDictIn K (A.getD 20 0) = true) ∧ (PySem.W.findIn K (.ref (A.getD 20 0)) "__class__" = some (some (.builtin "object.__class__"))) ∧ (PySem.W.specialIn K (.builtin "object.__class__") "__get__" = some (some (.builtin "getset_descriptor.__get__"))) ∧ (PySem.W.takesIn K (.builtin "object.__class__") = some true) ∧ (PySem.W.mroIn K (A.getD 20 0) (.type "object") = some true) ∧ (PySem.W.kitOne K (.ref (A.getD 20 0)) (.type "ValueError") = some true) ∧ (PySem.W.kitOne K (.ref (A.getD 20 0)) (.ref (A.getD 20 0)) = some true) ∧ (PySem.W.nsIn K mainGlobals "len" = some none) ∧ (PySem.W.nsIn K mainGlobals "isinstance" = some none) ∧ (PySem.W.nsIn K mainGlobals "min" = some none) ∧ (PySem.W.nsIn K mainGlobals "max" = some none) ∧ (PySem.W.nsIn K mainGlobals "sorted" = some none) ∧ (PySem.W.nsIn K mainGlobals "int" = some none) ∧ (PySem.W.nsIn K mainGlobals "str" = some none) ∧ (PySem.W.nsIn K mainGlobals "list" = some none) ∧ (PySem.W.nsIn K mainGlobals "tuple" = some none) ∧ (PySem.W.nsIn K mainGlobals "bool" = some none) ∧ (PySem.W.nsIn K mainGlobals "range" = some none) ∧ (PySem.W.nsIn K mainGlobals "zip" = some none) ∧ (PySem.W.nsIn K mainGlobals "ValueError" = some none) ∧ (PySem.W.nsIn K mainGlobals "ROLL" = some (some (gvK K "ROLL"))) ∧ (He.relB (V.int (64)) (gvK K "ROLL") = true) ∧ (PySem.W.nsIn K mainGlobals "MANY" = some (some (gvK K "MANY"))) ∧ (He.relB (V.int (16)) (gvK K "MANY") = true) := by
  unfold fsK13 at h
  obtain ⟨h0, h⟩ := He.ba h
  obtain ⟨h1, h⟩ := He.ba h
  obtain ⟨h2, h⟩ := He.ba h
  obtain ⟨h3, h⟩ := He.ba h
  obtain ⟨h4, h⟩ := He.ba h
  obtain ⟨h5, h⟩ := He.ba h
  obtain ⟨h6, h⟩ := He.ba h
  obtain ⟨h7, h⟩ := He.ba h
  obtain ⟨h8, h⟩ := He.ba h
  obtain ⟨h9, h⟩ := He.ba h
  obtain ⟨h10, h⟩ := He.ba h
  obtain ⟨h11, h⟩ := He.ba h
  obtain ⟨h12, h⟩ := He.ba h
  obtain ⟨h13, h⟩ := He.ba h
  obtain ⟨h14, h⟩ := He.ba h
  obtain ⟨h15, h⟩ := He.ba h
  obtain ⟨h16, h⟩ := He.ba h
  obtain ⟨h17, h⟩ := He.ba h
  obtain ⟨h18, h⟩ := He.ba h
  obtain ⟨h19, h⟩ := He.ba h
  obtain ⟨h20, h⟩ := He.ba h
  obtain ⟨h21, h⟩ := He.ba h
  obtain ⟨h22, h⟩ := He.ba h
  obtain ⟨h23, h⟩ := He.ba h
  exact ⟨of_decide_eq_true h0, h1, of_decide_eq_true h2, of_decide_eq_true h3, of_decide_eq_true h4, of_decide_eq_true h5, of_decide_eq_true h6, of_decide_eq_true h7, of_decide_eq_true h8, of_decide_eq_true h9, of_decide_eq_true h10, of_decide_eq_true h11, of_decide_eq_true h12, of_decide_eq_true h13, of_decide_eq_true h14, of_decide_eq_true h15, of_decide_eq_true h16, of_decide_eq_true h17, of_decide_eq_true h18, of_decide_eq_true h19, of_decide_eq_true h20, of_decide_eq_true h21, h22, of_decide_eq_true h23, h⟩
def fsK14 (K : PySem.W.Frag) (A : List Addr) : Bool := decide (PySem.W.nsIn K mainGlobals "MOST" = some (some (gvK K "MOST"))) && (He.relB (V.int (1000000)) (gvK K "MOST"))
theorem fsK14_ok {K : PySem.W.Frag} {A : List Addr} (h : fsK14 K A = true) : (PySem.W.nsIn K mainGlobals "MOST" = some (some (gvK K "MOST"))) ∧ (He.relB (V.int (1000000)) (gvK K "MOST") = true) := by
  unfold fsK14 at h
  obtain ⟨h0, h⟩ := He.ba h
  exact ⟨of_decide_eq_true h0, h⟩
def fsK (K : PySem.W.Frag) (A : List Addr) : Bool := fsK0 K A && (fsK1 K A && (fsK2 K A && (fsK3 K A && (fsK4 K A && (fsK5 K A && (fsK6 K A && (fsK7 K A && (fsK8 K A && (fsK9 K A && (fsK10 K A && (fsK11 K A && (fsK12 K A && (fsK13 K A && (fsK14 K A))))))))))))))
def fnK0 : List DefK := [⟨40, "__init__", "BlockFailed.__init__", defArgs s_BlockFailed_init, defBody s_BlockFailed_init, defScope s_BlockFailed_init, []⟩,
  ⟨41, "__init__", "NotClear.__init__", defArgs s_NotClear_init, defBody s_NotClear_init, defScope s_NotClear_init, []⟩,
  ⟨42, "mark_of", "mark_of", defArgs s_mark_of, defBody s_mark_of, defScope s_mark_of, []⟩,
  ⟨43, "bits_of", "bits_of", defArgs s_bits_of, defBody s_bits_of, defScope s_bits_of, []⟩,
  ⟨44, "__init__", "Book.__init__", defArgs s_Book_init, defBody s_Book_init, defScope s_Book_init, []⟩,
  ⟨45, "mark", "Book.mark", defArgs s_Book_mark, defBody s_Book_mark, defScope s_Book_mark, []⟩,
  ⟨46, "note", "Book.note", defArgs s_Book_note, defBody s_Book_note, defScope s_Book_note, []⟩,
  ⟨47, "forget", "Book.forget", defArgs s_Book_forget, defBody s_Book_forget, defScope s_Book_forget, []⟩,
  ⟨48, "emptied", "Book.emptied", defArgs s_Book_emptied, defBody s_Book_emptied, defScope s_Book_emptied, []⟩,
  ⟨49, "live_pages", "Book.live_pages", defArgs s_Book_live_pages, defBody s_Book_live_pages, defScope s_Book_live_pages, []⟩,
  ⟨50, "held", "Book.held", defArgs s_Book_held, defBody s_Book_held, defScope s_Book_held, []⟩,
  ⟨51, "tell", "Book.tell", defArgs s_Book_tell, defBody s_Book_tell, defScope s_Book_tell, []⟩,
  ⟨52, "is_whole", "is_whole", defArgs s_is_whole, defBody s_is_whole, defScope s_is_whole, []⟩,
  ⟨53, "is_within", "is_within", defArgs s_is_within, defBody s_is_within, defScope s_is_within, []⟩,
  ⟨54, "__init__", "Plain.__init__", defArgs s_Plain_init, defBody s_Plain_init, defScope s_Plain_init, []⟩,
  ⟨55, "good", "Plain.good", defArgs s_Plain_good, defBody s_Plain_good, defScope s_Plain_good, []⟩,
  ⟨56, "free", "Plain.free", defArgs s_Plain_free, defBody s_Plain_free, defScope s_Plain_free, []⟩,
  ⟨57, "part", "Plain.part", defArgs s_Plain_part, defBody s_Plain_part, defScope s_Plain_part, []⟩,
  ⟨58, "spot", "Plain.spot", defArgs s_Plain_spot, defBody s_Plain_spot, defScope s_Plain_spot, []⟩,
  ⟨59, "reserve", "Plain.reserve", defArgs s_Plain_reserve, defBody s_Plain_reserve, defScope s_Plain_reserve, []⟩]
def fnK1 : List DefK := [⟨60, "ready", "Plain.ready", defArgs s_Plain_ready, defBody s_Plain_ready, defScope s_Plain_ready, []⟩,
  ⟨61, "make_ready", "Plain.make_ready", defArgs s_Plain_make_ready, defBody s_Plain_make_ready, defScope s_Plain_make_ready, []⟩,
  ⟨62, "set_down", "Plain.set_down", defArgs s_Plain_set_down, defBody s_Plain_set_down, defScope s_Plain_set_down, []⟩,
  ⟨63, "lay", "Plain.lay", defArgs s_Plain_lay, defBody s_Plain_lay, defScope s_Plain_lay, []⟩,
  ⟨64, "need_sheet", "Plain.need_sheet", defArgs s_Plain_need_sheet, defBody s_Plain_need_sheet, defScope s_Plain_need_sheet, []⟩,
  ⟨65, "write", "Plain.write", defArgs s_Plain_write, defBody s_Plain_write, defScope s_Plain_write, []⟩,
  ⟨66, "read", "Plain.read", defArgs s_Plain_read, defBody s_Plain_read, defScope s_Plain_read, []⟩,
  ⟨67, "held", "Plain.held", defArgs s_Plain_held, defBody s_Plain_held, defScope s_Plain_held, []⟩,
  ⟨68, "__init__", "Store.__init__", defArgs s_Store_init, defBody s_Store_init, defScope s_Store_init, []⟩,
  ⟨69, "take", "Store.take", defArgs s_Store_take, defBody s_Store_take, defScope s_Store_take, []⟩,
  ⟨70, "reserve", "Store.reserve", defArgs s_Store_reserve, defBody s_Store_reserve, defScope s_Store_reserve, []⟩,
  ⟨71, "space", "Store.space", defArgs s_Store_space, defBody s_Store_space, defScope s_Store_space, []⟩,
  ⟨72, "tally", "Store.tally", defArgs s_Store_tally, defBody s_Store_tally, defScope s_Store_tally, []⟩,
  ⟨73, "full_ones", "Store.full_ones", defArgs s_Store_full_ones, defBody s_Store_full_ones, defScope s_Store_full_ones, []⟩,
  ⟨74, "options", "Store.options", defArgs s_Store_options, defBody s_Store_options, defScope s_Store_options, []⟩,
  ⟨75, "otherwise", "Store.otherwise", defArgs s_Store_otherwise, defBody s_Store_otherwise, defScope s_Store_otherwise, []⟩,
  ⟨76, "choice", "Store.choice", defArgs s_Store_choice, defBody s_Store_choice, defScope s_Store_choice, []⟩,
  ⟨77, "value_for", "Store.value_for", defArgs s_Store_value_for, defBody s_Store_value_for, defScope s_Store_value_for, []⟩,
  ⟨78, "moved", "Store.moved", defArgs s_Store_moved, defBody s_Store_moved, defScope s_Store_moved, []⟩,
  ⟨79, "wiped", "Store.wiped", defArgs s_Store_wiped, defBody s_Store_wiped, defScope s_Store_wiped, []⟩]
def fnK2 : List DefK := [⟨80, "make_room", "Store.make_room", defArgs s_Store_make_room, defBody s_Store_make_room, defScope s_Store_make_room, []⟩,
  ⟨81, "make_ready", "Store.make_ready", defArgs s_Store_make_ready, defBody s_Store_make_ready, defScope s_Store_make_ready, []⟩,
  ⟨82, "endurance", "endurance", defArgs s_endurance, defBody s_endurance, defScope s_endurance, []⟩,
  ⟨83, "__init__", "Chip.__init__", defArgs s_Chip_init, defBody s_Chip_init, defScope s_Chip_init, [.int (1000000), .non]⟩,
  ⟨84, "need_page", "Chip.need_page", defArgs s_Chip_need_page, defBody s_Chip_need_page, defScope s_Chip_need_page, []⟩,
  ⟨85, "need_block", "Chip.need_block", defArgs s_Chip_need_block, defBody s_Chip_need_block, defScope s_Chip_need_block, []⟩,
  ⟨86, "need_power", "Chip.need_power", defArgs s_Chip_need_power, defBody s_Chip_need_power, defScope s_Chip_need_power, []⟩,
  ⟨87, "need_good", "Chip.need_good", defArgs s_Chip_need_good, defBody s_Chip_need_good, defScope s_Chip_need_good, []⟩,
  ⟨88, "goes_well", "Chip.goes_well", defArgs s_Chip_goes_well, defBody s_Chip_goes_well, defScope s_Chip_goes_well, []⟩,
  ⟨89, "put", "Chip.put", defArgs s_Chip_put, defBody s_Chip_put, defScope s_Chip_put, []⟩,
  ⟨90, "wipe", "Chip.wipe", defArgs s_Chip_wipe, defBody s_Chip_wipe, defScope s_Chip_wipe, []⟩,
  ⟨91, "read", "Chip.read", defArgs s_Chip_read, defBody s_Chip_read, defScope s_Chip_read, []⟩,
  ⟨92, "is_dark", "Chip.is_dark", defArgs s_Chip_is_dark, defBody s_Chip_is_dark, defScope s_Chip_is_dark, []⟩,
  ⟨93, "cleared", "Chip.cleared", defArgs s_Chip_cleared, defBody s_Chip_cleared, defScope s_Chip_cleared, []⟩,
  ⟨94, "failed", "Chip.failed", defArgs s_Chip_failed, defBody s_Chip_failed, defScope s_Chip_failed, []⟩,
  ⟨95, "deeds", "Chip.deeds", defArgs s_Chip_deeds, defBody s_Chip_deeds, defScope s_Chip_deeds, []⟩,
  ⟨96, "goes_ahead", "Rule.goes_ahead", defArgs s_Rule_goes_ahead, defBody s_Rule_goes_ahead, defScope s_Rule_goes_ahead, []⟩,
  ⟨97, "choose", "Rule.choose", defArgs s_Rule_choose, defBody s_Rule_choose, defScope s_Rule_choose, []⟩,
  ⟨98, "goes_ahead", "Fewest.goes_ahead", defArgs s_Fewest_goes_ahead, defBody s_Fewest_goes_ahead, defScope s_Fewest_goes_ahead, []⟩,
  ⟨99, "goes_ahead", "Eldest.goes_ahead", defArgs s_Eldest_goes_ahead, defBody s_Eldest_goes_ahead, defScope s_Eldest_goes_ahead, []⟩]
def fnK3 : List DefK := [⟨100, "__init__", "Terms.__init__", defArgs s_Terms_init, defBody s_Terms_init, defScope s_Terms_init, [.int (0), .int (1000000)]⟩,
  ⟨101, "closed", "Terms.closed", defArgs s_Terms_closed, defBody s_Terms_closed, defScope s_Terms_closed, []⟩,
  ⟨102, "_law_cell_at", "_law_cell_at", defArgs s__law_cell_at, defBody s__law_cell_at, defScope s__law_cell_at, []⟩,
  ⟨103, "_law_whole", "_law_whole", defArgs s__law_whole, defBody s__law_whole, defScope s__law_whole, []⟩,
  ⟨104, "_law_size", "_law_size", defArgs s__law_size, defBody s__law_size, defScope s__law_size, []⟩,
  ⟨105, "_law_tally", "_law_tally", defArgs s__law_tally, defBody s__law_tally, defScope s__law_tally, []⟩,
  ⟨106, "_law_alike", "_law_alike", defArgs s__law_alike, defBody s__law_alike, defScope s__law_alike, []⟩,
  ⟨107, "_law_rows", "_law_rows", defArgs s__law_rows, defBody s__law_rows, defScope s__law_rows, []⟩,
  ⟨108, "_law_refused", "_law_refused", defArgs s__law_refused, defBody s__law_refused, defScope s__law_refused, []⟩,
  ⟨109, "law", "law", defArgs s_law, defBody s_law, defScope s_law, []⟩]
def fnK : List DefK := fnK0 ++ (fnK1 ++ (fnK2 ++ (fnK3)))
def nmK0 : List PySem.Str := ["_wall", "WornError", "NoChip", "NoPlace", "PowerGone", "BlockFailed", "NotClear", "NoTerms", "NoSheet", "NoValue", "Full", "NoRoom", "ROLL", "mark_of", "bits_of", "Book", "is_whole", "is_within", "Plain", "Store", "MANY", "MOST", "endurance", "Chip", "Rule", "Fewest", "Eldest", "Terms", "_law_cell_at", "_law_whole"]
def nmK1 : List PySem.Str := ["_law_size", "_law_tally", "_law_alike", "_law_rows", "_law_refused"]
def nmK : List PySem.Str := nmK0 ++ (nmK1)
abbrev RK : PySem.W.OpenRow := PySem.W.OpenLaw.row PySem.Challenge.rw_wornpages_k31_a_new_store
abbrev qK : Program := PySem.W.view RK.prog [45]
def lsK0 (g : Addr → Option Obj) : List Addr := [mainGlobals, cStatics, gK g "Book", gK g "Plain", gK g "Store", gK g "Chip", gK g "Rule", gK g "Fewest", gK g "Eldest", gK g "Terms", gK g "WornError", gK g "NoChip", gK g "NoPlace", gK g "PowerGone", gK g "BlockFailed", gK g "NotClear", gK g "NoTerms", gK g "NoSheet", gK g "NoValue", gK g "Full"]
def lsK1 (g : Addr → Option Obj) : List Addr := [gK g "NoRoom", nsK g (gK g "Book"), nsK g (gK g "Plain"), nsK g (gK g "Store"), nsK g (gK g "Chip"), nsK g (gK g "Rule"), nsK g (gK g "Fewest"), nsK g (gK g "Eldest"), nsK g (gK g "Terms"), nsK g (gK g "WornError"), nsK g (gK g "NoChip"), nsK g (gK g "NoPlace"), nsK g (gK g "PowerGone"), nsK g (gK g "BlockFailed"), nsK g (gK g "NotClear"), nsK g (gK g "NoTerms"), nsK g (gK g "NoSheet"), nsK g (gK g "NoValue"), nsK g (gK g "Full"), nsK g (gK g "NoRoom")]
def lsK2 (g : Addr → Option Obj) : List Addr := [mK g "BlockFailed" "__init__", mK g "NotClear" "__init__", gK g "mark_of", gK g "bits_of", mK g "Book" "__init__", mK g "Book" "mark", mK g "Book" "note", mK g "Book" "forget", mK g "Book" "emptied", mK g "Book" "live_pages", mK g "Book" "held", mK g "Book" "tell", gK g "is_whole", gK g "is_within", mK g "Plain" "__init__", mK g "Plain" "good", mK g "Plain" "free", mK g "Plain" "part", mK g "Plain" "spot", mK g "Plain" "reserve"]
def lsK3 (g : Addr → Option Obj) : List Addr := [mK g "Plain" "ready", mK g "Plain" "make_ready", mK g "Plain" "set_down", mK g "Plain" "lay", mK g "Plain" "need_sheet", mK g "Plain" "write", mK g "Plain" "read", mK g "Plain" "held", mK g "Store" "__init__", mK g "Store" "take", mK g "Store" "reserve", mK g "Store" "space", mK g "Store" "tally", mK g "Store" "full_ones", mK g "Store" "options", mK g "Store" "otherwise", mK g "Store" "choice", mK g "Store" "value_for", mK g "Store" "moved", mK g "Store" "wiped"]
def lsK4 (g : Addr → Option Obj) : List Addr := [mK g "Store" "make_room", mK g "Store" "make_ready", gK g "endurance", mK g "Chip" "__init__", mK g "Chip" "need_page", mK g "Chip" "need_block", mK g "Chip" "need_power", mK g "Chip" "need_good", mK g "Chip" "goes_well", mK g "Chip" "put", mK g "Chip" "wipe", mK g "Chip" "read", mK g "Chip" "is_dark", mK g "Chip" "cleared", mK g "Chip" "failed", mK g "Chip" "deeds", mK g "Rule" "goes_ahead", mK g "Rule" "choose", mK g "Fewest" "goes_ahead", mK g "Eldest" "goes_ahead"]
def lsK5 (g : Addr → Option Obj) : List Addr := [mK g "Terms" "__init__", mK g "Terms" "closed", gK g "_law_cell_at", gK g "_law_whole", gK g "_law_size", gK g "_law_tally", gK g "_law_alike", gK g "_law_rows", gK g "_law_refused", gK g "law", cdK g (mK g "BlockFailed" "__init__"), cdK g (mK g "NotClear" "__init__"), cdK g (gK g "mark_of"), cdK g (gK g "bits_of"), cdK g (mK g "Book" "__init__"), cdK g (mK g "Book" "mark"), cdK g (mK g "Book" "note"), cdK g (mK g "Book" "forget"), cdK g (mK g "Book" "emptied"), cdK g (mK g "Book" "live_pages")]
def lsK6 (g : Addr → Option Obj) : List Addr := [cdK g (mK g "Book" "held"), cdK g (mK g "Book" "tell"), cdK g (gK g "is_whole"), cdK g (gK g "is_within"), cdK g (mK g "Plain" "__init__"), cdK g (mK g "Plain" "good"), cdK g (mK g "Plain" "free"), cdK g (mK g "Plain" "part"), cdK g (mK g "Plain" "spot"), cdK g (mK g "Plain" "reserve"), cdK g (mK g "Plain" "ready"), cdK g (mK g "Plain" "make_ready"), cdK g (mK g "Plain" "set_down"), cdK g (mK g "Plain" "lay"), cdK g (mK g "Plain" "need_sheet"), cdK g (mK g "Plain" "write"), cdK g (mK g "Plain" "read"), cdK g (mK g "Plain" "held"), cdK g (mK g "Store" "__init__"), cdK g (mK g "Store" "take")]
def lsK7 (g : Addr → Option Obj) : List Addr := [cdK g (mK g "Store" "reserve"), cdK g (mK g "Store" "space"), cdK g (mK g "Store" "tally"), cdK g (mK g "Store" "full_ones"), cdK g (mK g "Store" "options"), cdK g (mK g "Store" "otherwise"), cdK g (mK g "Store" "choice"), cdK g (mK g "Store" "value_for"), cdK g (mK g "Store" "moved"), cdK g (mK g "Store" "wiped"), cdK g (mK g "Store" "make_room"), cdK g (mK g "Store" "make_ready"), cdK g (gK g "endurance"), cdK g (mK g "Chip" "__init__"), cdK g (mK g "Chip" "need_page"), cdK g (mK g "Chip" "need_block"), cdK g (mK g "Chip" "need_power"), cdK g (mK g "Chip" "need_good"), cdK g (mK g "Chip" "goes_well"), cdK g (mK g "Chip" "put")]
def lsK8 (g : Addr → Option Obj) : List Addr := [cdK g (mK g "Chip" "wipe"), cdK g (mK g "Chip" "read"), cdK g (mK g "Chip" "is_dark"), cdK g (mK g "Chip" "cleared"), cdK g (mK g "Chip" "failed"), cdK g (mK g "Chip" "deeds"), cdK g (mK g "Rule" "goes_ahead"), cdK g (mK g "Rule" "choose"), cdK g (mK g "Fewest" "goes_ahead"), cdK g (mK g "Eldest" "goes_ahead"), cdK g (mK g "Terms" "__init__"), cdK g (mK g "Terms" "closed"), cdK g (gK g "_law_cell_at"), cdK g (gK g "_law_whole"), cdK g (gK g "_law_size"), cdK g (gK g "_law_tally"), cdK g (gK g "_law_alike"), cdK g (gK g "_law_rows"), cdK g (gK g "_law_refused"), cdK g (gK g "law")]
def lsK9 (g : Addr → Option Obj) : List Addr := [dfK g (mK g "Chip" "__init__"), dfK g (mK g "Terms" "__init__")]
def lsK (g : Addr → Option Obj) : List Addr := lsK0 g ++ (lsK1 g ++ (lsK2 g ++ (lsK3 g ++ (lsK4 g ++ (lsK5 g ++ (lsK6 g ++ (lsK7 g ++ (lsK8 g ++ (lsK9 g)))))))))
abbrev hkK : PySem.W.Hook := hookK lsK fsK fnK
def obK (s : PySem.W.SharedT) : FnWK := obsKG lsK fsK fnK (HandSHeadRun.getT s)
theorem obK_eq (s : PySem.W.SharedT) : obK s = hkK.obs s.abs := obsKG_eq (HandSHeadRun.getT_eq s)
theorem runK (w : World) : HandSHeadRun.RunEq RK qK hkK obK 20000 nmK w := by
  intro os
  kernel_rfl
def spLawE (K : PySem.W.Frag) : Sp := fun vs H Q _ => ∃ (a : Addr) (ns : List Int), vs = [.ref a] ∧ SqL K H a (ns.map V.int) ∧ ns.length ≤ 63 ∧ ∀ H', Q (.bl true) H'
def FinT : Prop := ∀ {w : World} {K : PySem.W.Frag} {h : Heap} {mg : Str → Option Value} {fa : Addr} {A : List Addr} (X : K.In h) (G : h.Ns mainGlobals mg) (hfa : mg "law" = some (.ref fa)) (c : SaysK fsK fnK K A),
    ∃ fd : FuncData, (∀ (s : Shared) (v : Value), BindsTo s fd ⟨[v], []⟩ [("_law_script", v)]) ∧ ∀ base : Heap, K.In base → base.Ns mainGlobals mg → FnOk (PySem.Challenge.rw_wornpages_k31_a_new_store).prog w K mg base (L2.CX (PySem.Challenge.rw_wornpages_k31_a_new_store).prog w) 28 fa fd ["_law_script"] (spLawE K)
end My
section
open PySem PySem.W PySem.Calls PyProof.Rows
theorem My.finE (hFin : My.FinT) : PySem.Challenge.rw_wornpages_k31_a_new_store.Holds := by
  w_on; o_law
  refine HandSHeadRun.head_any (r := My.RK) (q := My.qK) (H := My.hkK) (ob := My.obK) (M := 20000) (loose := My.nmK) (d := HandSHeadRun.topDef My.RK.prog 45) (kwd := []) My.obK_eq
    (by kernel_rfl) (fun s => by kernel_rfl) My.runK (by kernel_rfl) (by kernel_rfl) (by kernel_rfl) (by rfl) (by first | assumption | decide +kernel) (by decide +kernel) ⟨rfl, rfl, rfl, rfl, rfl, by decide +kernel⟩ ?hw ?hc
  case hw => w_witness2
  case hc =>
    refine Kit.walk_ofW (l := PySem.Challenge.rw_wornpages_k31_a_new_store) (n := 63) (k := 28) (x := "_law_script") (CX := fun w => L2.CX (PySem.Challenge.rw_wornpages_k31_a_new_store).prog w) rfl (by decide) (by kernel_rfl) ⟨rfl, by decide, by decide⟩ ?F ?X
    case X =>
      intro w H s e s' z
      obtain ⟨_, _, _, _, _, _, _, _, _, _, _, _, z⟩ := z
      exact z.elim
    intro w mg fa h Y G hmg0
    obtain ⟨K, A, KX, c⟩ := Y
    have hmg : mg ("law" : PySem.Str) = some (.ref fa) := by
      have e : (HandSHeadRun.topDef My.RK.prog 45).name = ("law" : PySem.Str) := by kernel_rfl
      rw [← e]
      exact hmg0
    obtain ⟨fd, hb, hF⟩ := hFin (w := w) KX G hmg c
    exact ⟨K, fd, My.spLawE K, KX, hb, fun H a ns hl _ hS => ⟨a, ns, rfl, hS, hl, fun _ => rfl⟩, hF⟩
end
namespace My
open PySem L2 Kit
/-! steps of a reading: "s" one step, "go" as far as it goes -/
local macro_rules | `(tactic| walk_at "sq") => `(tactic| first | assumption | exact SqL.of (by assumption) | exact SqT.of (by assumption) | (refine' Same.seq ?hsm ?hsq; (case hsm => assumption); (case hsq => walk_at "sq")) | (refine' SqL.of ?hhq; (case hhq => walk_at "hp")) | (refine SqT.of ?_; walk_at "hp"))
local macro_rules | `(tactic| walk_at "hp") => `(tactic| first | assumption | (refine' (show Same _ _ by assumption) _ _ ?hhp; (case hhp => walk_at "hp")))
local macro_rules | `(tactic| walk_at "nin") => `(tactic| first | exact nin_of (by assumption) | exact nin_of (Ne.symm (by assumption)))
local macro_rules | `(tactic| walk_at "off") => `(tactic| first | exact Off.refl | exact Off.of (by assumption) | exact Off.sub (by assumption) (by intro b hb; rw [List.mem_singleton] at hb; subst hb; simp) | (refine Off.trans ?_ (Off.of (by assumption)); walk_at "off") | (refine Off.trans ?_ (Off.sub (by assumption) (by intro b hb; rw [List.mem_singleton] at hb; subst hb; simp)); walk_at "off") | (refine Off.trans ?_ (by assumption); walk_at "off"))
local macro_rules | `(tactic| walk_at "hp") => `(tactic| first | assumption | (refine' Off.at ?hO1 ?hO3 ?hO2; (case hO1 => assumption); (case hO2 => walk_at "nin"); (case hO3 => walk_at "hp")) | (refine' Off.lst ?hO1 ?hO2 ?hO3; (case hO1 => assumption); (case hO2 => assumption); (case hO3 => walk_at "hp")) | (refine' (show Same _ _ by assumption) _ _ ?hhp; (case hhp => walk_at "hp")))
local macro_rules | `(tactic| walk_at "nn") => `(tactic| (refine' ne_of_none ?nna ?nnb; (case nnb => assumption); (case nna => walk_at "hp")))
local macro_rules | `(tactic| walk_at "side") => `(tactic| first | assumption | decide | omega | exact ⟨by decide, by decide, by decide⟩ | exact ⟨by decide, by decide +kernel⟩ | exact Or.inr ⟨by decide, by decide⟩ | exact ⟨by omega, by omega⟩ | exact Or.inl ⟨by omega, by omega⟩ | exact Or.inr ⟨by omega, by omega⟩ | exact cdivW (by omega) (by omega) | (simp only [List.length_cons, List.length_nil, List.length_append, Nat.zero_add, Nat.reduceAdd, Nat.reduceMul]; decide) | (simp only [List.length_append, List.length_cons, List.length_nil, List.length_map]; omega) | (simp; done))
local macro_rules | `(tactic| walk_at "isi") => `(tactic| first
  | with_reducible refine x_isiNon_int ?_
  | with_reducible refine x_isiNon_bool ?_
  | with_reducible refine x_isiNon_str ?_
  | with_reducible refine x_isiNon_list ?_
  | with_reducible refine x_isiNon_tuple ?_
  | with_reducible refine x_isiNon_dict ?_
  | with_reducible refine x_isiBl_int ?_
  | with_reducible refine x_isiBl_bool ?_
  | with_reducible refine x_isiBl_str ?_
  | with_reducible refine x_isiBl_list ?_
  | with_reducible refine x_isiBl_tuple ?_
  | with_reducible refine x_isiBl_dict ?_
  | with_reducible refine x_isiInt_int ?_
  | with_reducible refine x_isiInt_bool ?_
  | with_reducible refine x_isiInt_str ?_
  | with_reducible refine x_isiInt_list ?_
  | with_reducible refine x_isiInt_tuple ?_
  | with_reducible refine x_isiInt_dict ?_
  | with_reducible refine x_isiStr_int ?_
  | with_reducible refine x_isiStr_bool ?_
  | with_reducible refine x_isiStr_str ?_
  | with_reducible refine x_isiStr_list ?_
  | with_reducible refine x_isiStr_tuple ?_
  | with_reducible refine x_isiStr_dict ?_
  | with_reducible refine x_isiLst_int (by assumption) ?_
  | with_reducible refine x_isiLst_bool (by assumption) ?_
  | with_reducible refine x_isiLst_str (by assumption) ?_
  | with_reducible refine x_isiLst_list (by assumption) ?_
  | with_reducible refine x_isiLst_tuple (by assumption) ?_
  | with_reducible refine x_isiLst_dict (by assumption) ?_
  | with_reducible refine x_isiTup_int (by assumption) ?_
  | with_reducible refine x_isiTup_bool (by assumption) ?_
  | with_reducible refine x_isiTup_str (by assumption) ?_
  | with_reducible refine x_isiTup_list (by assumption) ?_
  | with_reducible refine x_isiTup_tuple (by assumption) ?_
  | with_reducible refine x_isiTup_dict (by assumption) ?_
  | with_reducible refine x_isiDk_int (by assumption) ?_
  | with_reducible refine x_isiDk_bool (by assumption) ?_
  | with_reducible refine x_isiDk_str (by assumption) ?_
  | with_reducible refine x_isiDk_list (by assumption) ?_
  | with_reducible refine x_isiDk_tuple (by assumption) ?_
  | with_reducible refine x_isiDk_dict (by assumption) ?_)
local macro_rules | `(tactic| walk_at "s") => `(tactic| first
  | walk_at "u"
  | with_reducible refine x_seqA ?_
  | with_reducible refine x_seqD ?_
  | with_reducible refine x_seqF ?_
  | with_reducible refine x_seqFA ?_
  | with_reducible refine x_seqAug ?_
  | with_reducible refine x_asg ?_
  | ((with_reducible refine' x_var ?hv ?_); case hv => exact rfl)
  | with_reducible refine x_c ?_
  | with_reducible refine x_op ?_
  | with_reducible refine x_cb ?_
  | with_reducible refine x_cons ?_
  | with_reducible refine x_nil ?_
  | ((with_reducible refine x_gname ?_); (try dsimp only [List.set]))
  | with_reducible refine x_if ?_
  | with_reducible refine x_ret ?_
  | with_reducible refine x_test ?_
  | ((with_reducible refine x_isbl ?_); try dsimp only)
  | ((with_reducible refine x_truBl ?_); try dsimp only)
  | with_reducible refine x_callS ?_
  | with_reducible refine x_iteT ?_
  | with_reducible refine x_iteF ?_
  | with_reducible refine x_iteN ?_
  | with_reducible refine x_I0 ?_
  | with_reducible refine x_addI ?_
  | with_reducible refine x_lt ?_
  | ((with_reducible refine x_pow ?_ ?hs); (try (case hs => walk_at "side")); (try simp only [Int.reduceToNat]))
  | ((with_reducible refine x_I ?_ ?hs); (try (case hs => walk_at "side")))
  | ((with_reducible refine x_mulI ?_ ?hs); (case hs => walk_at "side"))
  | ((with_reducible refine x_mulU ?_ ?hs); (try (case hs => walk_at "side")))
  | with_reducible refine x_eqI ?_
  | with_reducible refine x_neI ?_
  | with_reducible refine x_eqB ?_
  | with_reducible refine x_neB ?_
  | with_reducible refine x_eqS ?_
  | with_reducible refine x_andT ?_
  | with_reducible refine x_orT ?_
  | with_reducible refine x_notT ?_
  | with_reducible refine x_and ?_
  | with_reducible refine x_or ?_
  | with_reducible refine x_not ?_
  | with_reducible refine x_chain ?_
  | with_reducible refine x_tB ?_
  | with_reducible refine x_tup ?_
  | with_reducible refine x_lst ?_
  | with_reducible refine x_un ?_
  | ((with_reducible refine x_nwL ?_ ?hs); (try (case hs => walk_at "side")); intro p H1 hp hs hn)
  | ((with_reducible refine x_nwT ?_ ?hs); (try (case hs => walk_at "side")); intro p H1 hp hs hn)
  | ((with_reducible refine' x_addL ?h1 ?h2 ?_ ?hs); (case h1 => walk_at "hp"); (case h2 => walk_at "hp"); (try (case hs => walk_at "side")); intro p H1 hp hs hn)
  | ((with_reducible refine' x_rep1 ?h1 ?_ ?h0); (case h1 => walk_at "hp"); (try (case h0 => walk_at "side")); intro p H1 hp hs hn)
  | ((with_reducible refine' x_rep ?h1 ?_ ?h2 ?h0 ?hs); (case h1 => walk_at "hp"); (try (case h2 => walk_at "side")); (try (case h0 => walk_at "side")); (try (case hs => walk_at "side")); intro p H1 hp hs hn)
  | ((with_reducible refine' x_addS ?_ ?hs); (try (case hs => walk_at "side")))
  | with_reducible refine x_U ?_
  | with_reducible refine x_drop ?_
  | with_reducible refine x_retN ?_
  | ((with_reducible refine x_next ?_); try dsimp only)
  | with_reducible refine x_ifExp ?_
  | ((with_reducible refine' x_lenM ?hq ?_); case hq => walk_at "sq")
  | ((with_reducible refine' x_lenL ?hq ?_); case hq => walk_at "sq")
  | ((with_reducible refine' x_lenD ?hq ?_); case hq => walk_at "hp")
  | ((with_reducible refine' x_lenT ?hq ?_); case hq => walk_at "sq")
  | ((with_reducible refine' x_ixH ?hq ?_); (case hq => walk_at "sq"))
  | ((with_reducible refine' x_ixS ?hq ?ha ?_); (case hq => walk_at "sq"); (case ha => first | assumption | exact rfl))
  | ((with_reducible refine' x_ixI ?hq ?_ ?h0 ?h1); (case hq => walk_at "sq"); (try (case h0 => walk_at "side")); (try (case h1 => walk_at "side")))
  | ((with_reducible refine' x_ixB ?hq ?_ ?h0 ?h1); (case hq => walk_at "sq"); (try (case h0 => walk_at "side")); (try (case h1 => walk_at "side")))
  | ((with_reducible refine' x_ixL ?hq ?_ ?h0 ?h1); (case hq => walk_at "sq"); (try (case h0 => walk_at "side")); (try (case h1 => walk_at "side")))
  | ((with_reducible refine' x_ixT ?hq ?ha ?_); (case hq => walk_at "sq"); case ha => exact rfl)
  | walk_at "isi"
  | with_reducible refine x_bm ?_
  | ((with_reducible refine' x_bmL ?hq ?_); (case hq => walk_at "sq"))
  | with_reducible refine x_bm0 ?_
  | ((with_reducible refine' x_bm0L ?hq ?_); (case hq => walk_at "sq"))
  | ((with_reducible refine' x_append ?ho ?_ ?hl); (case ho => walk_at "hp"); (try (case hl => walk_at "side")))
  | ((with_reducible refine' x_clear ?ho ?_); (case ho => walk_at "hp"))
  | with_reducible refine x_slice ?_
  | with_reducible refine x_noPart ?_
  | with_reducible refine x_part ?_
  | with_reducible refine x_ptK ?_
  | ((with_reducible refine' x_slL ?hq ?_); (case hq => walk_at "sq"); intro p H1 hp hs hn)
  | with_reducible refine x_forL ?_
  | with_reducible refine x_forT ?_
  | with_reducible refine x_forS ?_
  | with_reducible refine x_forR1 ?_
  | with_reducible refine x_forR2 ?_
  | with_reducible refine x_forEn ?_
  | with_reducible refine x_forZ ?_
  | with_reducible refine x_lcL ?_
  | with_reducible refine x_lcR1 ?_
  | with_reducible refine x_lcR2 ?_
  | with_reducible refine x_yes ?_
  | ((with_reducible refine x_mk0 ?_); intro p dp H1 hp hdp hne hs hn hd)
  | with_reducible refine x_mkS ?_
  | ((with_reducible refine x_mkK ?_); intro p dp H1 hp hdp hne hs hn hd)
  | with_reducible refine x_methD ?_
  | with_reducible refine x_fldAug ?_
  | with_reducible refine x_dget ?_
  | ((with_reducible refine' x_dgS ?ho ?hv ?_); (case ho => walk_at "hp"); (case hv => exact rfl); (try dsimp only))
  | with_reducible refine x_dput ?_
  | with_reducible refine x_seqDP ?_
  | with_reducible refine x_prN ?_
  | with_reducible refine x_prC ?_
  | ((with_reducible refine x_disp ?_); intro p H1 hp hs hn)
  | ((with_reducible refine x_dnew ?_); intro p H1 hp hs hn)
  | with_reducible refine x_din ?_
  | with_reducible refine x_dnin ?_
  | ((with_reducible refine' x_dninI ?ho ?_); (case ho => walk_at "hp"))
  | with_reducible refine x_dget1 ?_
  | with_reducible refine x_dsetd ?_
  | with_reducible refine x_dpop1 ?_
  | with_reducible refine x_dpop2 ?_
  | ((with_reducible refine' x_dinI ?ho ?_); (case ho => walk_at "hp"))
  | ((with_reducible refine' x_dg1K ?ho ?_); (case ho => walk_at "hp"))
  | ((with_reducible refine' x_dg1I ?ho ?_); (case ho => walk_at "hp"))
  | ((with_reducible refine' x_dsK ?ho ?_); (case ho => walk_at "hp"))
  | ((with_reducible refine' x_dpp1K ?ho ?_); (case ho => walk_at "hp"))
  | ((with_reducible refine' x_dpp2K ?ho ?_); (case ho => walk_at "hp"))
  | with_reducible refine x_augS ?_
  | with_reducible refine x_seqAS ?_
  | with_reducible refine x_rSub ?_
  | ((with_reducible refine' x_getI ?hq ?_ ?h0 ?h1); (case hq => walk_at "sq"); (try (case h0 => walk_at "side")); (try (case h1 => walk_at "side")))
  | ((with_reducible refine' x_getL ?hq ?_ ?h0 ?h1); (case hq => walk_at "sq"); (try (case h0 => walk_at "side")); (try (case h1 => walk_at "side")))
  | with_reducible refine x_gsub ?_
  | ((with_reducible refine' x_setL ?ho ?_ ?h0 ?h1); (case ho => walk_at "hp"); (try (case h0 => walk_at "side")); (try (case h1 => walk_at "side")); intro H1 hO hI; (try dsimp only))
  | ((with_reducible refine' x_sfN ?ho ?hf ?_ ?hc ?hn ?hl); (case ho => walk_at "hp"); (case hf => exact rfl); (case hc => walk_at "cls"); (case hn => walk_at "na"); (case hl => exact Nat.le_of_ble_eq_true rfl); intro H1 hO hI; (dsimp only [List.cons_append, List.nil_append] at hI); (try dsimp only))
  | ((with_reducible refine' x_fldK ?ho ?hf ?_ ?hc ?hn); (case ho => walk_at "hp"); (case hf => exact rfl); (case hc => walk_at "cls"); (case hn => walk_at "na"))
  | ((with_reducible refine' x_aug ?hv ?_); case hv => exact rfl)
  | ((with_reducible refine x_ipI ?_); (try dsimp only [List.set]))
  | with_reducible refine x_rAdd ?_
  | with_reducible refine x_isB ?_
  | with_reducible refine x_isNotB ?_
  | with_reducible refine x_isN ?_
  | with_reducible refine x_isNotN ?_
  | ((with_reducible refine' x_inI ?hq ?_); (case hq => walk_at "sq"))
  | ((with_reducible refine' x_notInI ?hq ?_); (case hq => walk_at "sq"))
  | ((with_reducible refine x_intB ?_); try dsimp only)
  | with_reducible refine x_intI ?_
  | with_reducible refine x_raise ?_
  | with_reducible refine x_seqR ?_
  | with_reducible refine x_mkE ?_
  | with_reducible refine x_try1 ?_
  | with_reducible refine x_seqT1 ?_
  | with_reducible refine x_tryA ?_
  | with_reducible refine x_seqTA ?_
  | with_reducible refine x_tryK ?_
  | with_reducible refine x_seqTK ?_
  | with_reducible refine x_tryM ?_
  | with_reducible refine x_seqTM ?_
  | with_reducible refine x_mix ?_
  | with_reducible refine x_seqMix ?_
  | with_reducible refine x_xf ?_
  | with_reducible refine x_mkO ?_
  | with_reducible refine x_vei ?_
  | with_reducible refine x_fld ?_
  | with_reducible refine x_sfld ?_
  | ((with_reducible refine' x_gtup2 ?hq ?_); (case hq => walk_at "sq"); (try dsimp only [List.set]))
  | ((with_reducible refine' x_glst4 ?hq ?_); (case hq => walk_at "sq"); (try dsimp only [List.set]))
  | with_reducible refine x_max2 ?_
  | with_reducible refine x_min2 ?_
  | ((with_reducible refine' x_list ?hq ?_); (case hq => walk_at "sq"); intro p H1 hp hs hn)
  | with_reducible refine x_listRev ?_
  | ((with_reducible refine' x_lrK ?hq ?_); (case hq => walk_at "sq"); intro p H1 hp hs hn)
  | ((with_reducible refine' x_tupL ?hq ?_); (case hq => walk_at "sq"); intro p H1 hp hs hn)
  | ((with_reducible refine' x_listD ?hq ?_); (case hq => walk_at "hp"); intro p H1 hp hs hn)
  | ((with_reducible refine x_shl ?_ ?hs); (try (case hs => walk_at "side")))
  | ((with_reducible refine x_str ?_ ?hs); (try (case hs => walk_at "side"))))
local macro_rules | `(tactic| walk_at "go") => `(tactic| repeat walk_at "s")
local macro_rules | `(tactic| walk_at "begin") => `(tactic| simp only [L2H.cxH, cxOf, L2.start, List.map, List.length_cons, List.length_nil, List.replicate, Nat.reduceAdd, Nat.reduceSub, List.cons_append, List.nil_append])
local macro_rules | `(tactic| walk_at "if") => `(tactic| ((with_reducible refine x_seq ?_); repeat walk_at "s"))
local macro_rules | `(tactic| walk_at "exv") => `(tactic| first | assumption | ((refine' ExV.mono ?exa ?exb); (case exa => assumption); (case exb => assumption)) | ((refine' ExV.off1 ?exo ?exx ?exn); (case exo => assumption); (case exx => assumption); (case exn => assumption)))
local macro_rules | `(tactic| walk_at "u") => `(tactic| first | ((with_reducible refine' x_isVC ?exv ?exe ?exk ?_); (case exv => walk_at "exv"); (case exe => assumption); (case exk => assumption)) | ((with_reducible refine' x_isVT ?exv ?exe ?exk ?_); (case exv => walk_at "exv"); (case exe => assumption); (case exk => assumption)))
--#LAWSPEC 28
structure Txt (K : PySem.W.Frag) (mg : Str → Option Value) where
  a_BlockFailed_init : Addr
  fd_BlockFailed_init : FuncData
  F_BlockFailed_init : Fun K "__init__" "BlockFailed.__init__" s_BlockFailed_init a_BlockFailed_init fd_BlockFailed_init
  bd_BlockFailed_init : Binds K fd_BlockFailed_init ["self", "block"] []
  k_BlockFailed_init : PySem.W.keepIn K (.ref a_BlockFailed_init) = true
  a_NotClear_init : Addr
  fd_NotClear_init : FuncData
  F_NotClear_init : Fun K "__init__" "NotClear.__init__" s_NotClear_init a_NotClear_init fd_NotClear_init
  bd_NotClear_init : Binds K fd_NotClear_init ["self", "page"] []
  k_NotClear_init : PySem.W.keepIn K (.ref a_NotClear_init) = true
  a_mark_of : Addr
  fd_mark_of : FuncData
  F_mark_of : Fun K "mark_of" "mark_of" s_mark_of a_mark_of fd_mark_of
  bd_mark_of : Binds K fd_mark_of ["stamp", "name"] []
  k_mark_of : PySem.W.keepIn K (.ref a_mark_of) = true
  g_mark_of : mg "mark_of" = some (.ref a_mark_of)
  a_bits_of : Addr
  fd_bits_of : FuncData
  F_bits_of : Fun K "bits_of" "bits_of" s_bits_of a_bits_of fd_bits_of
  bd_bits_of : Binds K fd_bits_of ["sheets"] []
  k_bits_of : PySem.W.keepIn K (.ref a_bits_of) = true
  g_bits_of : mg "bits_of" = some (.ref a_bits_of)
  a_Book_init : Addr
  fd_Book_init : FuncData
  F_Book_init : Fun K "__init__" "Book.__init__" s_Book_init a_Book_init fd_Book_init
  bd_Book_init : Binds K fd_Book_init ["self", "blocks", "pages"] []
  k_Book_init : PySem.W.keepIn K (.ref a_Book_init) = true
  a_Book_mark : Addr
  fd_Book_mark : FuncData
  F_Book_mark : Fun K "mark" "Book.mark" s_Book_mark a_Book_mark fd_Book_mark
  bd_Book_mark : Binds K fd_Book_mark ["self", "name"] []
  k_Book_mark : PySem.W.keepIn K (.ref a_Book_mark) = true
  a_Book_note : Addr
  fd_Book_note : FuncData
  F_Book_note : Fun K "note" "Book.note" s_Book_note a_Book_note fd_Book_note
  bd_Book_note : Binds K fd_Book_note ["self", "page", "name"] []
  k_Book_note : PySem.W.keepIn K (.ref a_Book_note) = true
  a_Book_forget : Addr
  fd_Book_forget : FuncData
  F_Book_forget : Fun K "forget" "Book.forget" s_Book_forget a_Book_forget fd_Book_forget
  bd_Book_forget : Binds K fd_Book_forget ["self", "name"] []
  k_Book_forget : PySem.W.keepIn K (.ref a_Book_forget) = true
  a_Book_emptied : Addr
  fd_Book_emptied : FuncData
  F_Book_emptied : Fun K "emptied" "Book.emptied" s_Book_emptied a_Book_emptied fd_Book_emptied
  bd_Book_emptied : Binds K fd_Book_emptied ["self", "block"] []
  k_Book_emptied : PySem.W.keepIn K (.ref a_Book_emptied) = true
  a_Book_live_pages : Addr
  fd_Book_live_pages : FuncData
  F_Book_live_pages : Fun K "live_pages" "Book.live_pages" s_Book_live_pages a_Book_live_pages fd_Book_live_pages
  bd_Book_live_pages : Binds K fd_Book_live_pages ["self", "block"] []
  k_Book_live_pages : PySem.W.keepIn K (.ref a_Book_live_pages) = true
  a_Book_held : Addr
  fd_Book_held : FuncData
  F_Book_held : Fun K "held" "Book.held" s_Book_held a_Book_held fd_Book_held
  bd_Book_held : Binds K fd_Book_held ["self"] []
  k_Book_held : PySem.W.keepIn K (.ref a_Book_held) = true
  a_Book_tell : Addr
  fd_Book_tell : FuncData
  F_Book_tell : Fun K "tell" "Book.tell" s_Book_tell a_Book_tell fd_Book_tell
  bd_Book_tell : Binds K fd_Book_tell ["self"] []
  k_Book_tell : PySem.W.keepIn K (.ref a_Book_tell) = true
  a_is_whole : Addr
  fd_is_whole : FuncData
  F_is_whole : Fun K "is_whole" "is_whole" s_is_whole a_is_whole fd_is_whole
  bd_is_whole : Binds K fd_is_whole ["thing"] []
  k_is_whole : PySem.W.keepIn K (.ref a_is_whole) = true
  g_is_whole : mg "is_whole" = some (.ref a_is_whole)
  a_is_within : Addr
  fd_is_within : FuncData
  F_is_within : Fun K "is_within" "is_within" s_is_within a_is_within fd_is_within
  bd_is_within : Binds K fd_is_within ["thing", "low", "high"] []
  k_is_within : PySem.W.keepIn K (.ref a_is_within) = true
  g_is_within : mg "is_within" = some (.ref a_is_within)
  a_Plain_init : Addr
  fd_Plain_init : FuncData
  F_Plain_init : Fun K "__init__" "Plain.__init__" s_Plain_init a_Plain_init fd_Plain_init
  bd_Plain_init : Binds K fd_Plain_init ["self", "chip", "terms"] []
  k_Plain_init : PySem.W.keepIn K (.ref a_Plain_init) = true
  a_Plain_good : Addr
  fd_Plain_good : FuncData
  F_Plain_good : Fun K "good" "Plain.good" s_Plain_good a_Plain_good fd_Plain_good
  bd_Plain_good : Binds K fd_Plain_good ["self"] []
  k_Plain_good : PySem.W.keepIn K (.ref a_Plain_good) = true
  a_Plain_free : Addr
  fd_Plain_free : FuncData
  F_Plain_free : Fun K "free" "Plain.free" s_Plain_free a_Plain_free fd_Plain_free
  bd_Plain_free : Binds K fd_Plain_free ["self"] []
  k_Plain_free : PySem.W.keepIn K (.ref a_Plain_free) = true
  a_Plain_part : Addr
  fd_Plain_part : FuncData
  F_Plain_part : Fun K "part" "Plain.part" s_Plain_part a_Plain_part fd_Plain_part
  bd_Plain_part : Binds K fd_Plain_part ["self"] []
  k_Plain_part : PySem.W.keepIn K (.ref a_Plain_part) = true
  a_Plain_spot : Addr
  fd_Plain_spot : FuncData
  F_Plain_spot : Fun K "spot" "Plain.spot" s_Plain_spot a_Plain_spot fd_Plain_spot
  bd_Plain_spot : Binds K fd_Plain_spot ["self"] []
  k_Plain_spot : PySem.W.keepIn K (.ref a_Plain_spot) = true
  a_Plain_reserve : Addr
  fd_Plain_reserve : FuncData
  F_Plain_reserve : Fun K "reserve" "Plain.reserve" s_Plain_reserve a_Plain_reserve fd_Plain_reserve
  bd_Plain_reserve : Binds K fd_Plain_reserve ["self"] []
  k_Plain_reserve : PySem.W.keepIn K (.ref a_Plain_reserve) = true
  a_Plain_ready : Addr
  fd_Plain_ready : FuncData
  F_Plain_ready : Fun K "ready" "Plain.ready" s_Plain_ready a_Plain_ready fd_Plain_ready
  bd_Plain_ready : Binds K fd_Plain_ready ["self"] []
  k_Plain_ready : PySem.W.keepIn K (.ref a_Plain_ready) = true
  a_Plain_make_ready : Addr
  fd_Plain_make_ready : FuncData
  F_Plain_make_ready : Fun K "make_ready" "Plain.make_ready" s_Plain_make_ready a_Plain_make_ready fd_Plain_make_ready
  bd_Plain_make_ready : Binds K fd_Plain_make_ready ["self"] []
  k_Plain_make_ready : PySem.W.keepIn K (.ref a_Plain_make_ready) = true
  a_Plain_set_down : Addr
  fd_Plain_set_down : FuncData
  F_Plain_set_down : Fun K "set_down" "Plain.set_down" s_Plain_set_down a_Plain_set_down fd_Plain_set_down
  bd_Plain_set_down : Binds K fd_Plain_set_down ["self", "name", "value"] []
  k_Plain_set_down : PySem.W.keepIn K (.ref a_Plain_set_down) = true
  a_Plain_lay : Addr
  fd_Plain_lay : FuncData
  F_Plain_lay : Fun K "lay" "Plain.lay" s_Plain_lay a_Plain_lay fd_Plain_lay
  bd_Plain_lay : Binds K fd_Plain_lay ["self", "name", "value"] []
  k_Plain_lay : PySem.W.keepIn K (.ref a_Plain_lay) = true
  a_Plain_need_sheet : Addr
  fd_Plain_need_sheet : FuncData
  F_Plain_need_sheet : Fun K "need_sheet" "Plain.need_sheet" s_Plain_need_sheet a_Plain_need_sheet fd_Plain_need_sheet
  bd_Plain_need_sheet : Binds K fd_Plain_need_sheet ["self", "sheet"] []
  k_Plain_need_sheet : PySem.W.keepIn K (.ref a_Plain_need_sheet) = true
  a_Plain_write : Addr
  fd_Plain_write : FuncData
  F_Plain_write : Fun K "write" "Plain.write" s_Plain_write a_Plain_write fd_Plain_write
  bd_Plain_write : Binds K fd_Plain_write ["self", "sheet", "value"] []
  k_Plain_write : PySem.W.keepIn K (.ref a_Plain_write) = true
  a_Plain_read : Addr
  fd_Plain_read : FuncData
  F_Plain_read : Fun K "read" "Plain.read" s_Plain_read a_Plain_read fd_Plain_read
  bd_Plain_read : Binds K fd_Plain_read ["self", "sheet"] []
  k_Plain_read : PySem.W.keepIn K (.ref a_Plain_read) = true
  a_Plain_held : Addr
  fd_Plain_held : FuncData
  F_Plain_held : Fun K "held" "Plain.held" s_Plain_held a_Plain_held fd_Plain_held
  bd_Plain_held : Binds K fd_Plain_held ["self"] []
  k_Plain_held : PySem.W.keepIn K (.ref a_Plain_held) = true
  a_Store_init : Addr
  fd_Store_init : FuncData
  F_Store_init : Fun K "__init__" "Store.__init__" s_Store_init a_Store_init fd_Store_init
  bd_Store_init : Binds K fd_Store_init ["self", "chip", "terms", "rule"] []
  k_Store_init : PySem.W.keepIn K (.ref a_Store_init) = true
  a_Store_take : Addr
  fd_Store_take : FuncData
  F_Store_take : Fun K "take" "Store.take" s_Store_take a_Store_take fd_Store_take
  bd_Store_take : Binds K fd_Store_take ["self", "rule"] []
  k_Store_take : PySem.W.keepIn K (.ref a_Store_take) = true
  a_Store_reserve : Addr
  fd_Store_reserve : FuncData
  F_Store_reserve : Fun K "reserve" "Store.reserve" s_Store_reserve a_Store_reserve fd_Store_reserve
  bd_Store_reserve : Binds K fd_Store_reserve ["self"] []
  k_Store_reserve : PySem.W.keepIn K (.ref a_Store_reserve) = true
  a_Store_space : Addr
  fd_Store_space : FuncData
  F_Store_space : Fun K "space" "Store.space" s_Store_space a_Store_space fd_Store_space
  bd_Store_space : Binds K fd_Store_space ["self"] []
  k_Store_space : PySem.W.keepIn K (.ref a_Store_space) = true
  a_Store_tally : Addr
  fd_Store_tally : FuncData
  F_Store_tally : Fun K "tally" "Store.tally" s_Store_tally a_Store_tally fd_Store_tally
  bd_Store_tally : Binds K fd_Store_tally ["self", "block"] []
  k_Store_tally : PySem.W.keepIn K (.ref a_Store_tally) = true
  a_Store_full_ones : Addr
  fd_Store_full_ones : FuncData
  F_Store_full_ones : Fun K "full_ones" "Store.full_ones" s_Store_full_ones a_Store_full_ones fd_Store_full_ones
  bd_Store_full_ones : Binds K fd_Store_full_ones ["self"] []
  k_Store_full_ones : PySem.W.keepIn K (.ref a_Store_full_ones) = true
  a_Store_options : Addr
  fd_Store_options : FuncData
  F_Store_options : Fun K "options" "Store.options" s_Store_options a_Store_options fd_Store_options
  bd_Store_options : Binds K fd_Store_options ["self"] []
  k_Store_options : PySem.W.keepIn K (.ref a_Store_options) = true
  a_Store_otherwise : Addr
  fd_Store_otherwise : FuncData
  F_Store_otherwise : Fun K "otherwise" "Store.otherwise" s_Store_otherwise a_Store_otherwise fd_Store_otherwise
  bd_Store_otherwise : Binds K fd_Store_otherwise ["self"] []
  k_Store_otherwise : PySem.W.keepIn K (.ref a_Store_otherwise) = true
  a_Store_choice : Addr
  fd_Store_choice : FuncData
  F_Store_choice : Fun K "choice" "Store.choice" s_Store_choice a_Store_choice fd_Store_choice
  bd_Store_choice : Binds K fd_Store_choice ["self"] []
  k_Store_choice : PySem.W.keepIn K (.ref a_Store_choice) = true
  a_Store_value_for : Addr
  fd_Store_value_for : FuncData
  F_Store_value_for : Fun K "value_for" "Store.value_for" s_Store_value_for a_Store_value_for fd_Store_value_for
  bd_Store_value_for : Binds K fd_Store_value_for ["self", "page", "name"] []
  k_Store_value_for : PySem.W.keepIn K (.ref a_Store_value_for) = true
  a_Store_moved : Addr
  fd_Store_moved : FuncData
  F_Store_moved : Fun K "moved" "Store.moved" s_Store_moved a_Store_moved fd_Store_moved
  bd_Store_moved : Binds K fd_Store_moved ["self", "block"] []
  k_Store_moved : PySem.W.keepIn K (.ref a_Store_moved) = true
  a_Store_wiped : Addr
  fd_Store_wiped : FuncData
  F_Store_wiped : Fun K "wiped" "Store.wiped" s_Store_wiped a_Store_wiped fd_Store_wiped
  bd_Store_wiped : Binds K fd_Store_wiped ["self", "block"] []
  k_Store_wiped : PySem.W.keepIn K (.ref a_Store_wiped) = true
  a_Store_make_room : Addr
  fd_Store_make_room : FuncData
  F_Store_make_room : Fun K "make_room" "Store.make_room" s_Store_make_room a_Store_make_room fd_Store_make_room
  bd_Store_make_room : Binds K fd_Store_make_room ["self"] []
  k_Store_make_room : PySem.W.keepIn K (.ref a_Store_make_room) = true
  a_Store_make_ready : Addr
  fd_Store_make_ready : FuncData
  F_Store_make_ready : Fun K "make_ready" "Store.make_ready" s_Store_make_ready a_Store_make_ready fd_Store_make_ready
  bd_Store_make_ready : Binds K fd_Store_make_ready ["self"] []
  k_Store_make_ready : PySem.W.keepIn K (.ref a_Store_make_ready) = true
  a_endurance : Addr
  fd_endurance : FuncData
  F_endurance : Fun K "endurance" "endurance" s_endurance a_endurance fd_endurance
  bd_endurance : Binds K fd_endurance ["blocks", "ills"] []
  k_endurance : PySem.W.keepIn K (.ref a_endurance) = true
  g_endurance : mg "endurance" = some (.ref a_endurance)
  a_Chip_init : Addr
  fd_Chip_init : FuncData
  F_Chip_init : FunD K "__init__" "Chip.__init__" (defArgs s_Chip_init) (defBody s_Chip_init) (defScope s_Chip_init) dfl_Chip_init [] a_Chip_init fd_Chip_init
  ds2_Chip_init : List Value
  dv2_Chip_init : Vals (dfl_Chip_init.drop 0) ds2_Chip_init
  bd2_Chip_init : Binds K fd_Chip_init ["self", "blocks", "pages", "most", "ills"] ds2_Chip_init
  ds1_Chip_init : List Value
  dv1_Chip_init : Vals (dfl_Chip_init.drop 1) ds1_Chip_init
  bd1_Chip_init : Binds K fd_Chip_init ["self", "blocks", "pages", "most", "ills"] ds1_Chip_init
  k_Chip_init : PySem.W.keepIn K (.ref a_Chip_init) = true
  a_Chip_need_page : Addr
  fd_Chip_need_page : FuncData
  F_Chip_need_page : Fun K "need_page" "Chip.need_page" s_Chip_need_page a_Chip_need_page fd_Chip_need_page
  bd_Chip_need_page : Binds K fd_Chip_need_page ["self", "page"] []
  k_Chip_need_page : PySem.W.keepIn K (.ref a_Chip_need_page) = true
  a_Chip_need_block : Addr
  fd_Chip_need_block : FuncData
  F_Chip_need_block : Fun K "need_block" "Chip.need_block" s_Chip_need_block a_Chip_need_block fd_Chip_need_block
  bd_Chip_need_block : Binds K fd_Chip_need_block ["self", "block"] []
  k_Chip_need_block : PySem.W.keepIn K (.ref a_Chip_need_block) = true
  a_Chip_need_power : Addr
  fd_Chip_need_power : FuncData
  F_Chip_need_power : Fun K "need_power" "Chip.need_power" s_Chip_need_power a_Chip_need_power fd_Chip_need_power
  bd_Chip_need_power : Binds K fd_Chip_need_power ["self"] []
  k_Chip_need_power : PySem.W.keepIn K (.ref a_Chip_need_power) = true
  a_Chip_need_good : Addr
  fd_Chip_need_good : FuncData
  F_Chip_need_good : Fun K "need_good" "Chip.need_good" s_Chip_need_good a_Chip_need_good fd_Chip_need_good
  bd_Chip_need_good : Binds K fd_Chip_need_good ["self", "block"] []
  k_Chip_need_good : PySem.W.keepIn K (.ref a_Chip_need_good) = true
  a_Chip_goes_well : Addr
  fd_Chip_goes_well : FuncData
  F_Chip_goes_well : Fun K "goes_well" "Chip.goes_well" s_Chip_goes_well a_Chip_goes_well fd_Chip_goes_well
  bd_Chip_goes_well : Binds K fd_Chip_goes_well ["self", "block", "worn"] []
  k_Chip_goes_well : PySem.W.keepIn K (.ref a_Chip_goes_well) = true
  a_Chip_put : Addr
  fd_Chip_put : FuncData
  F_Chip_put : Fun K "put" "Chip.put" s_Chip_put a_Chip_put fd_Chip_put
  bd_Chip_put : Binds K fd_Chip_put ["self", "page", "stuff"] []
  k_Chip_put : PySem.W.keepIn K (.ref a_Chip_put) = true
  a_Chip_wipe : Addr
  fd_Chip_wipe : FuncData
  F_Chip_wipe : Fun K "wipe" "Chip.wipe" s_Chip_wipe a_Chip_wipe fd_Chip_wipe
  bd_Chip_wipe : Binds K fd_Chip_wipe ["self", "block"] []
  k_Chip_wipe : PySem.W.keepIn K (.ref a_Chip_wipe) = true
  a_Chip_read : Addr
  fd_Chip_read : FuncData
  F_Chip_read : Fun K "read" "Chip.read" s_Chip_read a_Chip_read fd_Chip_read
  bd_Chip_read : Binds K fd_Chip_read ["self", "page"] []
  k_Chip_read : PySem.W.keepIn K (.ref a_Chip_read) = true
  a_Chip_is_dark : Addr
  fd_Chip_is_dark : FuncData
  F_Chip_is_dark : Fun K "is_dark" "Chip.is_dark" s_Chip_is_dark a_Chip_is_dark fd_Chip_is_dark
  bd_Chip_is_dark : Binds K fd_Chip_is_dark ["self"] []
  k_Chip_is_dark : PySem.W.keepIn K (.ref a_Chip_is_dark) = true
  a_Chip_cleared : Addr
  fd_Chip_cleared : FuncData
  F_Chip_cleared : Fun K "cleared" "Chip.cleared" s_Chip_cleared a_Chip_cleared fd_Chip_cleared
  bd_Chip_cleared : Binds K fd_Chip_cleared ["self", "block"] []
  k_Chip_cleared : PySem.W.keepIn K (.ref a_Chip_cleared) = true
  a_Chip_failed : Addr
  fd_Chip_failed : FuncData
  F_Chip_failed : Fun K "failed" "Chip.failed" s_Chip_failed a_Chip_failed fd_Chip_failed
  bd_Chip_failed : Binds K fd_Chip_failed ["self", "block"] []
  k_Chip_failed : PySem.W.keepIn K (.ref a_Chip_failed) = true
  a_Chip_deeds : Addr
  fd_Chip_deeds : FuncData
  F_Chip_deeds : Fun K "deeds" "Chip.deeds" s_Chip_deeds a_Chip_deeds fd_Chip_deeds
  bd_Chip_deeds : Binds K fd_Chip_deeds ["self"] []
  k_Chip_deeds : PySem.W.keepIn K (.ref a_Chip_deeds) = true
  a_Rule_goes_ahead : Addr
  fd_Rule_goes_ahead : FuncData
  F_Rule_goes_ahead : Fun K "goes_ahead" "Rule.goes_ahead" s_Rule_goes_ahead a_Rule_goes_ahead fd_Rule_goes_ahead
  bd_Rule_goes_ahead : Binds K fd_Rule_goes_ahead ["self", "one", "other", "pages", "now"] []
  k_Rule_goes_ahead : PySem.W.keepIn K (.ref a_Rule_goes_ahead) = true
  a_Rule_choose : Addr
  fd_Rule_choose : FuncData
  F_Rule_choose : Fun K "choose" "Rule.choose" s_Rule_choose a_Rule_choose fd_Rule_choose
  bd_Rule_choose : Binds K fd_Rule_choose ["self", "tallies", "pages", "now"] []
  k_Rule_choose : PySem.W.keepIn K (.ref a_Rule_choose) = true
  a_Fewest_goes_ahead : Addr
  fd_Fewest_goes_ahead : FuncData
  F_Fewest_goes_ahead : Fun K "goes_ahead" "Fewest.goes_ahead" s_Fewest_goes_ahead a_Fewest_goes_ahead fd_Fewest_goes_ahead
  bd_Fewest_goes_ahead : Binds K fd_Fewest_goes_ahead ["self", "one", "other", "pages", "now"] []
  k_Fewest_goes_ahead : PySem.W.keepIn K (.ref a_Fewest_goes_ahead) = true
  a_Eldest_goes_ahead : Addr
  fd_Eldest_goes_ahead : FuncData
  F_Eldest_goes_ahead : Fun K "goes_ahead" "Eldest.goes_ahead" s_Eldest_goes_ahead a_Eldest_goes_ahead fd_Eldest_goes_ahead
  bd_Eldest_goes_ahead : Binds K fd_Eldest_goes_ahead ["self", "one", "other", "pages", "now"] []
  k_Eldest_goes_ahead : PySem.W.keepIn K (.ref a_Eldest_goes_ahead) = true
  a_Terms_init : Addr
  fd_Terms_init : FuncData
  F_Terms_init : FunD K "__init__" "Terms.__init__" (defArgs s_Terms_init) (defBody s_Terms_init) (defScope s_Terms_init) dfl_Terms_init [] a_Terms_init fd_Terms_init
  ds1_Terms_init : List Value
  dv1_Terms_init : Vals (dfl_Terms_init.drop 1) ds1_Terms_init
  bd1_Terms_init : Binds K fd_Terms_init ["self", "blocks", "pages", "sheets", "share", "ill", "spread"] ds1_Terms_init
  k_Terms_init : PySem.W.keepIn K (.ref a_Terms_init) = true
  a_Terms_closed : Addr
  fd_Terms_closed : FuncData
  F_Terms_closed : Fun K "closed" "Terms.closed" s_Terms_closed a_Terms_closed fd_Terms_closed
  bd_Terms_closed : Binds K fd_Terms_closed ["self"] []
  k_Terms_closed : PySem.W.keepIn K (.ref a_Terms_closed) = true
  a__law_cell_at : Addr
  fd__law_cell_at : FuncData
  F__law_cell_at : Fun K "_law_cell_at" "_law_cell_at" s__law_cell_at a__law_cell_at fd__law_cell_at
  bd__law_cell_at : Binds K fd__law_cell_at ["_law_script", "_law_k"] []
  k__law_cell_at : PySem.W.keepIn K (.ref a__law_cell_at) = true
  g__law_cell_at : mg "_law_cell_at" = some (.ref a__law_cell_at)
  a__law_whole : Addr
  fd__law_whole : FuncData
  F__law_whole : Fun K "_law_whole" "_law_whole" s__law_whole a__law_whole fd__law_whole
  bd__law_whole : Binds K fd__law_whole ["_law_found"] []
  k__law_whole : PySem.W.keepIn K (.ref a__law_whole) = true
  g__law_whole : mg "_law_whole" = some (.ref a__law_whole)
  a__law_size : Addr
  fd__law_size : FuncData
  F__law_size : Fun K "_law_size" "_law_size" s__law_size a__law_size fd__law_size
  bd__law_size : Binds K fd__law_size ["_law_script"] []
  k__law_size : PySem.W.keepIn K (.ref a__law_size) = true
  g__law_size : mg "_law_size" = some (.ref a__law_size)
  a__law_tally : Addr
  fd__law_tally : FuncData
  F__law_tally : Fun K "_law_tally" "_law_tally" s__law_tally a__law_tally fd__law_tally
  bd__law_tally : Binds K fd__law_tally ["_law_block", "_law_pages", "_law_many"] []
  k__law_tally : PySem.W.keepIn K (.ref a__law_tally) = true
  g__law_tally : mg "_law_tally" = some (.ref a__law_tally)
  a__law_alike : Addr
  fd__law_alike : FuncData
  F__law_alike : Fun K "_law_alike" "_law_alike" s__law_alike a__law_alike fd__law_alike
  bd__law_alike : Binds K fd__law_alike ["_law_found", "_law_due"] []
  k__law_alike : PySem.W.keepIn K (.ref a__law_alike) = true
  g__law_alike : mg "_law_alike" = some (.ref a__law_alike)
  a__law_rows : Addr
  fd__law_rows : FuncData
  F__law_rows : Fun K "_law_rows" "_law_rows" s__law_rows a__law_rows fd__law_rows
  bd__law_rows : Binds K fd__law_rows ["_law_found", "_law_due"] []
  k__law_rows : PySem.W.keepIn K (.ref a__law_rows) = true
  g__law_rows : mg "_law_rows" = some (.ref a__law_rows)
  a__law_refused : Addr
  fd__law_refused : FuncData
  F__law_refused : Fun K "_law_refused" "_law_refused" s__law_refused a__law_refused fd__law_refused
  bd__law_refused : Binds K fd__law_refused ["_law_store"] []
  k__law_refused : PySem.W.keepIn K (.ref a__law_refused) = true
  g__law_refused : mg "_law_refused" = some (.ref a__law_refused)
  a_law : Addr
  fd_law : FuncData
  F_law : Fun K "law" "law" s_law a_law fd_law
  bd_law : Binds K fd_law ["_law_script"] []
  k_law : PySem.W.keepIn K (.ref a_law) = true
  C_Book : Addr
  g_Book : mg "Book" = some (.ref C_Book)
  cl_Book : Cls K C_Book
  na_Book_blocks : NoAttr K C_Book "blocks"
  na_Book_pages : NoAttr K C_Book "pages"
  na_Book_where : NoAttr K C_Book "where"
  na_Book_names : NoAttr K C_Book "names"
  na_Book_live : NoAttr K C_Book "live"
  na_Book_filled : NoAttr K C_Book "filled"
  na_Book_born : NoAttr K C_Book "born"
  na_Book_stamp : NoAttr K C_Book "stamp"
  mk_Book : Mk K C_Book a_Book_init
  m_Book_mark : Meth K C_Book "mark" a_Book_mark
  m_Book_note : Meth K C_Book "note" a_Book_note
  m_Book_forget : Meth K C_Book "forget" a_Book_forget
  m_Book_emptied : Meth K C_Book "emptied" a_Book_emptied
  m_Book_live_pages : Meth K C_Book "live_pages" a_Book_live_pages
  m_Book_held : Meth K C_Book "held" a_Book_held
  m_Book_tell : Meth K C_Book "tell" a_Book_tell
  C_Plain : Addr
  g_Plain : mg "Plain" = some (.ref C_Plain)
  cl_Plain : Cls K C_Plain
  na_Plain_chip : NoAttr K C_Plain "chip"
  na_Plain_terms : NoAttr K C_Plain "terms"
  na_Plain_book : NoAttr K C_Plain "book"
  mk_Plain : Mk K C_Plain a_Plain_init
  m_Plain_good : Meth K C_Plain "good" a_Plain_good
  m_Plain_free : Meth K C_Plain "free" a_Plain_free
  m_Plain_part : Meth K C_Plain "part" a_Plain_part
  m_Plain_spot : Meth K C_Plain "spot" a_Plain_spot
  m_Plain_reserve : Meth K C_Plain "reserve" a_Plain_reserve
  m_Plain_ready : Meth K C_Plain "ready" a_Plain_ready
  m_Plain_make_ready : Meth K C_Plain "make_ready" a_Plain_make_ready
  m_Plain_set_down : Meth K C_Plain "set_down" a_Plain_set_down
  m_Plain_lay : Meth K C_Plain "lay" a_Plain_lay
  m_Plain_need_sheet : Meth K C_Plain "need_sheet" a_Plain_need_sheet
  m_Plain_write : Meth K C_Plain "write" a_Plain_write
  m_Plain_read : Meth K C_Plain "read" a_Plain_read
  m_Plain_held : Meth K C_Plain "held" a_Plain_held
  C_Store : Addr
  g_Store : mg "Store" = some (.ref C_Store)
  cl_Store : Cls K C_Store
  na_Store_rule : NoAttr K C_Store "rule"
  na_Store_papers : NoAttr K C_Store "papers"
  na_Store_chip : NoAttr K C_Store "chip"
  na_Store_terms : NoAttr K C_Store "terms"
  na_Store_book : NoAttr K C_Store "book"
  mk_Store : Mk K C_Store a_Store_init
  m_Store_good : Meth K C_Store "good" a_Plain_good
  m_Store_free : Meth K C_Store "free" a_Plain_free
  m_Store_part : Meth K C_Store "part" a_Plain_part
  m_Store_spot : Meth K C_Store "spot" a_Plain_spot
  m_Store_reserve : Meth K C_Store "reserve" a_Store_reserve
  m_Store_ready : Meth K C_Store "ready" a_Plain_ready
  m_Store_make_ready : Meth K C_Store "make_ready" a_Store_make_ready
  m_Store_set_down : Meth K C_Store "set_down" a_Plain_set_down
  m_Store_lay : Meth K C_Store "lay" a_Plain_lay
  m_Store_need_sheet : Meth K C_Store "need_sheet" a_Plain_need_sheet
  m_Store_write : Meth K C_Store "write" a_Plain_write
  m_Store_read : Meth K C_Store "read" a_Plain_read
  m_Store_held : Meth K C_Store "held" a_Plain_held
  m_Store_take : Meth K C_Store "take" a_Store_take
  m_Store_space : Meth K C_Store "space" a_Store_space
  m_Store_tally : Meth K C_Store "tally" a_Store_tally
  m_Store_full_ones : Meth K C_Store "full_ones" a_Store_full_ones
  m_Store_options : Meth K C_Store "options" a_Store_options
  m_Store_otherwise : Meth K C_Store "otherwise" a_Store_otherwise
  m_Store_choice : Meth K C_Store "choice" a_Store_choice
  m_Store_value_for : Meth K C_Store "value_for" a_Store_value_for
  m_Store_moved : Meth K C_Store "moved" a_Store_moved
  m_Store_wiped : Meth K C_Store "wiped" a_Store_wiped
  m_Store_make_room : Meth K C_Store "make_room" a_Store_make_room
  C_Chip : Addr
  g_Chip : mg "Chip" = some (.ref C_Chip)
  cl_Chip : Cls K C_Chip
  na_Chip_blocks : NoAttr K C_Chip "blocks"
  na_Chip_pages : NoAttr K C_Chip "pages"
  na_Chip_most : NoAttr K C_Chip "most"
  na_Chip_lasts : NoAttr K C_Chip "lasts"
  na_Chip_stuff : NoAttr K C_Chip "stuff"
  na_Chip_tried : NoAttr K C_Chip "tried"
  na_Chip_clearings : NoAttr K C_Chip "clearings"
  na_Chip_broken : NoAttr K C_Chip "broken"
  na_Chip_left : NoAttr K C_Chip "left"
  na_Chip_log : NoAttr K C_Chip "log"
  mk_Chip : Mk K C_Chip a_Chip_init
  m_Chip_need_page : Meth K C_Chip "need_page" a_Chip_need_page
  m_Chip_need_block : Meth K C_Chip "need_block" a_Chip_need_block
  m_Chip_need_power : Meth K C_Chip "need_power" a_Chip_need_power
  m_Chip_need_good : Meth K C_Chip "need_good" a_Chip_need_good
  m_Chip_goes_well : Meth K C_Chip "goes_well" a_Chip_goes_well
  m_Chip_put : Meth K C_Chip "put" a_Chip_put
  m_Chip_wipe : Meth K C_Chip "wipe" a_Chip_wipe
  m_Chip_read : Meth K C_Chip "read" a_Chip_read
  m_Chip_is_dark : Meth K C_Chip "is_dark" a_Chip_is_dark
  m_Chip_cleared : Meth K C_Chip "cleared" a_Chip_cleared
  m_Chip_failed : Meth K C_Chip "failed" a_Chip_failed
  m_Chip_deeds : Meth K C_Chip "deeds" a_Chip_deeds
  C_Rule : Addr
  g_Rule : mg "Rule" = some (.ref C_Rule)
  cl_Rule : Cls K C_Rule
  mk0_Rule : Mk0 K C_Rule
  m_Rule_goes_ahead : Meth K C_Rule "goes_ahead" a_Rule_goes_ahead
  m_Rule_choose : Meth K C_Rule "choose" a_Rule_choose
  C_Fewest : Addr
  g_Fewest : mg "Fewest" = some (.ref C_Fewest)
  cl_Fewest : Cls K C_Fewest
  mk0_Fewest : Mk0 K C_Fewest
  m_Fewest_goes_ahead : Meth K C_Fewest "goes_ahead" a_Fewest_goes_ahead
  m_Fewest_choose : Meth K C_Fewest "choose" a_Rule_choose
  C_Eldest : Addr
  g_Eldest : mg "Eldest" = some (.ref C_Eldest)
  cl_Eldest : Cls K C_Eldest
  mk0_Eldest : Mk0 K C_Eldest
  m_Eldest_goes_ahead : Meth K C_Eldest "goes_ahead" a_Eldest_goes_ahead
  m_Eldest_choose : Meth K C_Eldest "choose" a_Rule_choose
  C_Terms : Addr
  g_Terms : mg "Terms" = some (.ref C_Terms)
  cl_Terms : Cls K C_Terms
  na_Terms_blocks : NoAttr K C_Terms "blocks"
  na_Terms_pages : NoAttr K C_Terms "pages"
  na_Terms_sheets : NoAttr K C_Terms "sheets"
  na_Terms_share : NoAttr K C_Terms "share"
  na_Terms_ill : NoAttr K C_Terms "ill"
  na_Terms_spread : NoAttr K C_Terms "spread"
  mk_Terms : Mk K C_Terms a_Terms_init
  m_Terms_closed : Meth K C_Terms "closed" a_Terms_closed
  C_WornError : Addr
  g_WornError : mg "WornError" = some (.ref C_WornError)
  xc_WornError : XC K C_WornError
  C_NoChip : Addr
  g_NoChip : mg "NoChip" = some (.ref C_NoChip)
  xc_NoChip : XC K C_NoChip
  C_NoPlace : Addr
  g_NoPlace : mg "NoPlace" = some (.ref C_NoPlace)
  xc_NoPlace : XC K C_NoPlace
  C_PowerGone : Addr
  g_PowerGone : mg "PowerGone" = some (.ref C_PowerGone)
  xc_PowerGone : XC K C_PowerGone
  C_BlockFailed : Addr
  g_BlockFailed : mg "BlockFailed" = some (.ref C_BlockFailed)
  xi_BlockFailed : XI K C_BlockFailed a_BlockFailed_init
  nx_BlockFailed_block : PySem.W.findIn K (.ref C_BlockFailed) "block" = some none
  C_NotClear : Addr
  g_NotClear : mg "NotClear" = some (.ref C_NotClear)
  xi_NotClear : XI K C_NotClear a_NotClear_init
  nx_NotClear_page : PySem.W.findIn K (.ref C_NotClear) "page" = some none
  C_NoTerms : Addr
  g_NoTerms : mg "NoTerms" = some (.ref C_NoTerms)
  xc_NoTerms : XC K C_NoTerms
  C_NoSheet : Addr
  g_NoSheet : mg "NoSheet" = some (.ref C_NoSheet)
  xc_NoSheet : XC K C_NoSheet
  C_NoValue : Addr
  g_NoValue : mg "NoValue" = some (.ref C_NoValue)
  xc_NoValue : XC K C_NoValue
  C_Full : Addr
  g_Full : mg "Full" = some (.ref C_Full)
  xc_Full : XC K C_Full
  C_NoRoom : Addr
  g_NoRoom : mg "NoRoom" = some (.ref C_NoRoom)
  xc_NoRoom : XC K C_NoRoom
  wi_WornError : WInit K C_WornError
  ci_Plain : CInit K C_Plain a_Plain_init
  ic_Store : InsC K C_Store
  kn_Store_Plain : PySem.W.kitOne K (.ref C_Store) (.ref C_Plain) = some true
  em_NoRoom_NoRoom : PySem.W.exmOne K (.ref C_NoRoom) (.ref C_NoRoom) = some true
  em_NoRoom_WornError : PySem.W.exmOne K (.ref C_NoRoom) (.ref C_WornError) = some true
  em_NoTerms_NoRoom : PySem.W.exmOne K (.ref C_NoTerms) (.ref C_NoRoom) = some false
  em_NoTerms_WornError : PySem.W.exmOne K (.ref C_NoTerms) (.ref C_WornError) = some true
  em_NoSheet_NoRoom : PySem.W.exmOne K (.ref C_NoSheet) (.ref C_NoRoom) = some false
  em_NoSheet_WornError : PySem.W.exmOne K (.ref C_NoSheet) (.ref C_WornError) = some true
  em_NoValue_NoRoom : PySem.W.exmOne K (.ref C_NoValue) (.ref C_NoRoom) = some false
  em_NoValue_WornError : PySem.W.exmOne K (.ref C_NoValue) (.ref C_WornError) = some true
  em_Full_NoRoom : PySem.W.exmOne K (.ref C_Full) (.ref C_NoRoom) = some false
  em_Full_WornError : PySem.W.exmOne K (.ref C_Full) (.ref C_WornError) = some true
  em_NoChip_NoRoom : PySem.W.exmOne K (.ref C_NoChip) (.ref C_NoRoom) = some false
  em_NoChip_WornError : PySem.W.exmOne K (.ref C_NoChip) (.ref C_WornError) = some true
  em_NoPlace_NoRoom : PySem.W.exmOne K (.ref C_NoPlace) (.ref C_NoRoom) = some false
  em_NoPlace_WornError : PySem.W.exmOne K (.ref C_NoPlace) (.ref C_WornError) = some true
  em_PowerGone_NoRoom : PySem.W.exmOne K (.ref C_PowerGone) (.ref C_NoRoom) = some false
  em_PowerGone_WornError : PySem.W.exmOne K (.ref C_PowerGone) (.ref C_WornError) = some true
  em_BlockFailed_NoRoom : PySem.W.exmOne K (.ref C_BlockFailed) (.ref C_NoRoom) = some false
  em_BlockFailed_WornError : PySem.W.exmOne K (.ref C_BlockFailed) (.ref C_WornError) = some true
  em_NotClear_NoRoom : PySem.W.exmOne K (.ref C_NotClear) (.ref C_NoRoom) = some false
  em_NotClear_WornError : PySem.W.exmOne K (.ref C_NotClear) (.ref C_WornError) = some true
  ec_NoRoom : ExcC K C_NoRoom
  ki_NoRoom_ValueError : PySem.W.kitOne K (.ref C_NoRoom) (.type "ValueError") = some true
  kc_NoRoom_NoRoom : PySem.W.kitOne K (.ref C_NoRoom) (.ref C_NoRoom) = some true
  b_len : mg "len" = none
  b_isinstance : mg "isinstance" = none
  b_min : mg "min" = none
  b_max : mg "max" = none
  b_sorted : mg "sorted" = none
  b_int : mg "int" = none
  b_str : mg "str" = none
  b_list : mg "list" = none
  b_tuple : mg "tuple" = none
  b_bool : mg "bool" = none
  b_range : mg "range" = none
  b_zip : mg "zip" = none
  b_ValueError : mg "ValueError" = none
  u_ROLL : Value
  g_ROLL : mg "ROLL" = some u_ROLL
  r_ROLL : RelV (V.int (64)) u_ROLL
  u_MANY : Value
  g_MANY : mg "MANY" = some u_MANY
  r_MANY : RelV (V.int (16)) u_MANY
  u_MOST : Value
  g_MOST : mg "MOST" = some u_MOST
  r_MOST : RelV (V.int (1000000)) u_MOST
local macro_rules | `(tactic| walk_at "cls") => `(tactic| first | assumption | exact (show Txt _ _ by assumption).cl_Book | exact (show Txt _ _ by assumption).cl_Plain | exact (show Txt _ _ by assumption).cl_Store | exact (show Txt _ _ by assumption).cl_Chip | exact (show Txt _ _ by assumption).cl_Rule | exact (show Txt _ _ by assumption).cl_Fewest | exact (show Txt _ _ by assumption).cl_Eldest | exact (show Txt _ _ by assumption).cl_Terms)
local macro_rules | `(tactic| walk_at "na") => `(tactic| first | assumption | exact (show Txt _ _ by assumption).na_Book_blocks | exact (show Txt _ _ by assumption).na_Book_pages | exact (show Txt _ _ by assumption).na_Book_where | exact (show Txt _ _ by assumption).na_Book_names | exact (show Txt _ _ by assumption).na_Book_live | exact (show Txt _ _ by assumption).na_Book_filled | exact (show Txt _ _ by assumption).na_Book_born | exact (show Txt _ _ by assumption).na_Book_stamp | exact (show Txt _ _ by assumption).na_Plain_chip | exact (show Txt _ _ by assumption).na_Plain_terms | exact (show Txt _ _ by assumption).na_Plain_book | exact (show Txt _ _ by assumption).na_Store_rule | exact (show Txt _ _ by assumption).na_Store_papers | exact (show Txt _ _ by assumption).na_Store_chip | exact (show Txt _ _ by assumption).na_Store_terms | exact (show Txt _ _ by assumption).na_Store_book | exact (show Txt _ _ by assumption).na_Chip_blocks | exact (show Txt _ _ by assumption).na_Chip_pages | exact (show Txt _ _ by assumption).na_Chip_most | exact (show Txt _ _ by assumption).na_Chip_lasts | exact (show Txt _ _ by assumption).na_Chip_stuff | exact (show Txt _ _ by assumption).na_Chip_tried | exact (show Txt _ _ by assumption).na_Chip_clearings | exact (show Txt _ _ by assumption).na_Chip_broken | exact (show Txt _ _ by assumption).na_Chip_left | exact (show Txt _ _ by assumption).na_Chip_log | exact (show Txt _ _ by assumption).na_Terms_blocks | exact (show Txt _ _ by assumption).na_Terms_pages | exact (show Txt _ _ by assumption).na_Terms_sheets | exact (show Txt _ _ by assumption).na_Terms_share | exact (show Txt _ _ by assumption).na_Terms_ill | exact (show Txt _ _ by assumption).na_Terms_spread)
section
variable {P : Program} {w : World} {K : PySem.W.Frag} {mg : Str → Option Value} {base : Heap}
abbrev FO (P : Program) (w : World) (K : PySem.W.Frag) (mg : Str → Option Value) (base : Heap) := FnOk P w K mg base (L2.CX P w)
/-! ### the law's reader -/
def cl (ns : List Int) (k : Int) : Int := ns.getD k.toNat 0
def spCell (K : PySem.W.Frag) : Sp := fun vs H Q _ => ∃ (a : Addr) (ns : List Int) (k : Int), vs = [.ref a, .int k] ∧ SqL K H a (ns.map V.int) ∧ 0 ≤ k ∧ Q (.int (cl ns k)) H
theorem ok_cell_at (T : Txt K mg) : FO P w K mg base 1 T.a__law_cell_at T.fd__law_cell_at ["_law_script", "_law_k"] (spCell K) := by
  have sc := sc__law_cell_at
  refine T.F__law_cell_at.okX sc (fun vs H Q E h => ?_) (fun cdv A outer s H vs Q E hr h => ?_)
  · obtain ⟨a, ns, k, rfl, _⟩ := h
    rfl
  · obtain ⟨a, ns, k, rfl, hS, h0, q⟩ := h
    refine ⟨_, (pss_cons (ps_if (pt_cmpR op_uLt (pv 1) (pe_callB (cr_ulen) (by rfl) T.b_len bt_len (pa_cons (pv 0) pa_nil)) (nomark _)) (pss_one (ps_ret (pe_ix ix_seq (pv 0) (pv 1) (fun _ _ => rfl)))) pss_nil)
      (pss_one (ps_ret pe_int))), ?_⟩
    walk_at "begin"
    walk_at "if"
    refine x_iteD (fun h => ?_) (fun h => ?_)
    · walk_at "go"
      exact q
    · walk_at "go"
      have e : cl ns k = 0 := by
        unfold cl
        rw [List.getD_eq_getElem?_getD, List.getElem?_eq_none (by omega)]
        rfl
      rw [e] at q
      exact q
theorem x_cell {H : Hp} {Q : VK} {E : XK} {a : Addr} {ns : List Int} {k : Int} (h : SqL K H a (ns.map V.int)) (q : Q (.int (cl ns k)) H) (h0 : 0 ≤ k) : spCell K [.ref a, .int k] H Q E := ⟨a, ns, k, rfl, h, h0, q⟩
local macro_rules | `(tactic| walk_at "u") => `(tactic| ((with_reducible refine' x_cell ?hq ?_ ?h0); (case hq => walk_at "sq"); (try (case h0 => walk_at "side"))))
/-- a value that is no whole number, of a kind that is met here -/
def NotI (K : PySem.W.Frag) (H : Hp) (v : V) : Prop := v = .non ∨ (∃ b, v = .bl b) ∨ (∃ s, v = .str s) ∨ ∃ p, v = .ref p ∧ (TyX K H v (.type "list") ∨ TyX K H v (.type "tuple"))
def spLWhole (K : PySem.W.Frag) : Sp := fun vs H Q _ => ∃ v, vs = [v] ∧ ((∃ n, v = .int n ∧ Q (.bl true) H) ∨ (NotI K H v ∧ Q (.bl false) H))
theorem x_lwhole {H : Hp} {Q : VK} {E : XK} {n : Int} (q : Q (.bl true) H) : spLWhole K [.int n] H Q E := ⟨_, rfl, .inl ⟨n, rfl, q⟩⟩
theorem x_lwholeN {H : Hp} {Q : VK} {E : XK} {v : V} (h : NotI K H v) (q : Q (.bl false) H) : spLWhole K [v] H Q E := ⟨_, rfl, .inr ⟨h, q⟩⟩
local macro_rules | `(tactic| walk_at "u") => `(tactic| first | (with_reducible refine x_lwhole ?_) | (with_reducible refine x_lwholeN (by assumption) ?_))
theorem ok_whole (T : Txt K mg) : FO P w K mg base 1 T.a__law_whole T.fd__law_whole ["_law_found"] (spLWhole K) := by
  have sc := sc__law_whole
  refine T.F__law_whole.okX sc (fun vs H Q E h => ?_) (fun cdv A outer s H vs Q E hr h => ?_)
  · obtain ⟨v, rfl, _⟩ := h
    rfl
  · obtain ⟨v, rfl, h⟩ := h
    refine ⟨_, (pss_one (ps_ret (pe_andT (pe_callB (cr_uisinstance) (by rfl) T.b_isinstance bt_isinstance (pa_cons (pv 0) (pa_cons (pe_bltn (v := .ty "int") (by rfl) T.b_int bt_int rfl) pa_nil))) (pe_one (pe_notT (pe_callB (cr_uisinstance) (by rfl) T.b_isinstance bt_isinstance (pa_cons (pv 0) (pa_cons (pe_bltn (v := .ty "bool") (by rfl) T.b_bool bt_bool rfl) pa_nil)))))))), ?_⟩
    walk_at "begin"
    walk_at "go"
    rcases h with ⟨n, rfl, q⟩ | ⟨h, q⟩
    · walk_at "go"
      exact q
    · rcases h with rfl | ⟨b, rfl⟩ | ⟨z, rfl⟩ | ⟨p, rfl, h⟩
      · walk_at "go"
        exact q
      · walk_at "go"
        exact q
      · walk_at "go"
        exact q
      · rcases h with h | h
        · refine x_isiR h (b := false) (by decide +kernel) ?_
          walk_at "go"
          exact q
        · refine x_isiR h (b := false) (by decide +kernel) ?_
          walk_at "go"
          exact q
/-! ### whole numbers -/
def spWhole (K : PySem.W.Frag) : Sp := fun vs H Q _ => ∃ v, vs = [v] ∧ ((∃ n, v = .int n ∧ Q (.bl true) H) ∨ (NotI K H v ∧ Q (.bl false) H))
theorem x_whole {H : Hp} {Q : VK} {E : XK} {n : Int} (q : Q (.bl true) H) : spWhole K [.int n] H Q E := ⟨_, rfl, .inl ⟨n, rfl, q⟩⟩
theorem x_wholeN {H : Hp} {Q : VK} {E : XK} {v : V} (h : NotI K H v) (q : Q (.bl false) H) : spWhole K [v] H Q E := ⟨_, rfl, .inr ⟨h, q⟩⟩
local macro_rules | `(tactic| walk_at "u") => `(tactic| first | (with_reducible refine x_whole ?_) | (with_reducible refine x_wholeN (by assumption) ?_))
theorem ok_is_whole (T : Txt K mg) : FO P w K mg base 1 T.a_is_whole T.fd_is_whole ["thing"] (spWhole K) := by
  have sc := sc_is_whole
  refine T.F_is_whole.okX sc (fun vs H Q E h => ?_) (fun cdv A outer s H vs Q E hr h => ?_)
  · obtain ⟨v, rfl, _⟩ := h
    rfl
  · obtain ⟨v, rfl, h⟩ := h
    refine ⟨_, (pss_one (ps_ret (pe_andT (pe_callB (cr_uisinstance) (by rfl) T.b_isinstance bt_isinstance (pa_cons (pv 0) (pa_cons (pe_bltn (v := .ty "int") (by rfl) T.b_int bt_int rfl) pa_nil))) (pe_one (pe_notT (pe_callB (cr_uisinstance) (by rfl) T.b_isinstance bt_isinstance (pa_cons (pv 0) (pa_cons (pe_bltn (v := .ty "bool") (by rfl) T.b_bool bt_bool rfl) pa_nil)))))))), ?_⟩
    walk_at "begin"
    walk_at "go"
    rcases h with ⟨n, rfl, q⟩ | ⟨h, q⟩
    · walk_at "go"
      exact q
    · rcases h with rfl | ⟨b, rfl⟩ | ⟨z, rfl⟩ | ⟨p, rfl, h⟩
      · walk_at "go"
        exact q
      · walk_at "go"
        exact q
      · walk_at "go"
        exact q
      · rcases h with h | h
        · refine x_isiR h (b := false) (by decide +kernel) ?_
          walk_at "go"
          exact q
        · refine x_isiR h (b := false) (by decide +kernel) ?_
          walk_at "go"
          exact q
def spWithin (K : PySem.W.Frag) : Sp := fun vs H Q _ => ∃ v lo hi, vs = [v, .int lo, .int hi] ∧ ((∃ n, v = .int n ∧ Q (.bl (decide (lo ≤ n ∧ n ≤ hi))) H) ∨ (NotI K H v ∧ Q (.bl false) H))
theorem x_within {H : Hp} {Q : VK} {E : XK} {n lo hi : Int} (q : Q (.bl (decide (lo ≤ n ∧ n ≤ hi))) H) : spWithin K [.int n, .int lo, .int hi] H Q E := ⟨_, _, _, rfl, .inl ⟨n, rfl, q⟩⟩
theorem x_withinN {H : Hp} {Q : VK} {E : XK} {v : V} {lo hi : Int} (h : NotI K H v) (q : Q (.bl false) H) : spWithin K [v, .int lo, .int hi] H Q E := ⟨_, _, _, rfl, .inr ⟨h, q⟩⟩
local macro_rules | `(tactic| walk_at "u") => `(tactic| first | (with_reducible refine x_within ?_) | (with_reducible refine x_withinN (by assumption) ?_))
theorem ok_is_within (T : Txt K mg) : FO P w K mg base 2 T.a_is_within T.fd_is_within ["thing", "low", "high"] (spWithin K) := by
  have sc := sc_is_within
  refine T.F_is_within.okX sc (fun vs H Q E h => ?_) (fun cdv A outer s H vs Q E hr h => ?_)
  · obtain ⟨v, lo, hi, rfl, _⟩ := h
    rfl
  · obtain ⟨v, lo, hi, rfl, h⟩ := h
    refine ⟨_, (pss_one (ps_ret (pe_andT (pe_callS (ok_is_whole T) (hr.mono (by decide)) (by rfl) T.g_is_whole T.k_is_whole T.bd_is_whole (passAt (takes_of rfl rfl rfl rfl)) (pa_cons (pv 0) pa_nil)) (pe_one (pe_chain op_le op_le (pv 1) (pv 0) (pv 2)))))), ?_⟩
    walk_at "begin"
    walk_at "go"
    rcases h with ⟨n, rfl, q⟩ | ⟨h, q⟩
    · walk_at "go"
      refine x_iteD (fun h => ?_) (fun h => ?_)
      · walk_at "go"
        have e : decide (n ≤ hi) = decide (lo ≤ n ∧ n ≤ hi) := by simp [h]
        rw [e]
        exact q
      · walk_at "go"
        have e : false = decide (lo ≤ n ∧ n ≤ hi) := by simp [h]
        rw [← e] at q
        exact q
    · walk_at "go"
      exact q
/-! ### values that may be numbers -/
def NotS (v : V) : Prop := v = .non ∨ (∃ b, v = .bl b) ∨ ∃ s, v = .str s
theorem NotS.to {H : Hp} {v : V} (h : NotS v) : NotI K H v := by
  rcases h with h | h | h
  · exact .inl h
  · exact .inr (.inl h)
  · exact .inr (.inr (.inl h))
inductive Num : V → Option Int → Prop
  | int (n : Int) : Num (.int n) (some n)
  | no (v : V) : NotS v → Num v none
def inB (o : Option Int) (lo hi : Int) : Bool := match o with
  | some n => decide (lo ≤ n ∧ n ≤ hi)
  | none => false
theorem x_wNum {H : Hp} {Q : VK} {E : XK} {v : V} {o : Option Int} {lo hi : Int} (h : Num v o) (q : Q (.bl (inB o lo hi)) H) : spWithin K [v, .int lo, .int hi] H Q E := by
  cases h with
  | int n => exact ⟨_, _, _, rfl, .inl ⟨n, rfl, q⟩⟩
  | no v h => exact ⟨_, _, _, rfl, .inr ⟨h.to, q⟩⟩
theorem Num.of_inB {v : V} {o : Option Int} {lo hi : Int} (h : Num v o) (e : inB o lo hi = true) : ∃ n, v = .int n ∧ o = some n ∧ lo ≤ n ∧ n ≤ hi := by
  cases h with
  | int n => exact ⟨n, rfl, rfl, of_decide_eq_true e⟩
  | no v h => cases e
/-! ### pairs of numbers as data -/
def prD (e : Int × Int) : PyData := .tuple [.int e.1, .int e.2]
theorem _root_.Kit.PairL.dp {K : PySem.W.Frag} {H : Hp} {q : Addr} {ws : List V} {is : List (Int × Int)} (h : PairL H ws is) (hq : H q = some (.lst ws)) : Dp K H (.ref q) (.list (is.map prD)) := by
  refine .lst (SqL.of hq) (dpAll_of (by rw [List.length_map]; exact h.1) fun i v d h1 h2 => ?_)
  rw [List.getElem?_map] at h2
  cases e : is[i]? with
  | none => rw [e] at h2; simp at h2
  | some t =>
    rw [e] at h2
    simp at h2
    subst h2
    obtain ⟨a, rfl, ha⟩ := h.2 i v t h1 e
    exact .tup (SqT.of ha) (.cons (.int _) (.cons (.int _) .nil))
/-! ### the chip -/
structure Cs where
  b : Int
  p : Int
  m : Int
  lasts : List V
  stuff : List V
  tried : List Int
  clr : List Int
  broken : List Bool
  left : Option Int
  log : List (Str × Int × Bool)
structure CF where
  dx : Addr
  la : Addr
  st : Addr
  tr : Addr
  cl : Addr
  br : Addr
  lg : Addr
def lv : Option Int → V
  | none => .non
  | some n => .int n
def chipF (F : CF) (c : Cs) : List (Str × V) := [("blocks", .int c.b), ("pages", .int c.p), ("most", .int c.m), ("lasts", .ref F.la), ("stuff", .ref F.st), ("tried", .ref F.tr), ("clearings", .ref F.cl), ("broken", .ref F.br), ("left", lv c.left), ("log", .ref F.lg)]
def LogAt (H : Hp) (v : V) (e : Str × Int × Bool) : Prop := ∃ a, v = .ref a ∧ H a = some (.tup [.str e.1, .int e.2.1, .bl e.2.2])
def LogAll (H : Hp) (vs : List V) (es : List (Str × Int × Bool)) : Prop := vs.length = es.length ∧ ∀ (i : Nat) v e, vs[i]? = some v → es[i]? = some e → LogAt H v e
structure Sizes (c : Cs) : Prop where
  b : 2 ≤ c.b ∧ c.b ≤ 16
  p : 1 ≤ c.p ∧ c.p ≤ 16
  m : 0 ≤ c.m ∧ c.m ≤ 1000000
  lasts : (c.lasts.length : Int) = c.b
  stuff : (c.stuff.length : Int) = c.b * c.p
  tried : (c.tried.length : Int) = c.b
  clr : (c.clr.length : Int) = c.b
  broken : (c.broken.length : Int) = c.b
  lsc : ∀ x ∈ c.lasts, x = .non ∨ ∃ n : Int, x = .int n
def CF.all (F : CF) (r : Addr) : List Addr := [r, F.la, F.st, F.tr, F.cl, F.br, F.lg]
structure ChipAt (C : Addr) (H : Hp) (r : Addr) (F : CF) (c : Cs) : Prop where
  obj : H r = some (.ins C F.dx (chipF F c))
  la : H F.la = some (.lst c.lasts)
  st : H F.st = some (.lst c.stuff)
  tr : H F.tr = some (.lst (c.tried.map V.int))
  cl : H F.cl = some (.lst (c.clr.map V.int))
  br : H F.br = some (.lst (c.broken.map V.bl))
  lg : ∃ vs, H F.lg = some (.lst vs) ∧ LogAll H vs c.log
  nd : (CF.all F r).Nodup
  sz : Sizes c
theorem LogAll.mono {H H' : Hp} {vs : List V} {es : List (Str × Int × Bool)} (s : TupS H H') (h : LogAll H vs es) : LogAll H' vs es := ⟨h.1, fun i v e h1 h2 => by
  obtain ⟨a, q, h⟩ := h.2 i v e h1 h2
  exact ⟨a, q, s _ _ h⟩⟩
theorem ChipAt.mono {C : Addr} {H H' : Hp} {r : Addr} {F : CF} {c : Cs} (s : Same H H') (h : ChipAt C H r F c) : ChipAt C H' r F c := by
  obtain ⟨vs, e, l⟩ := h.lg
  exact ⟨s _ _ h.obj, s _ _ h.la, s _ _ h.st, s _ _ h.tr, s _ _ h.cl, s _ _ h.br, ⟨vs, s _ _ e, l.mono (TupS.of s)⟩, h.nd, h.sz⟩
/-- the addresses of a chip are unlike -/
theorem ChipAt.ne {C : Addr} {H : Hp} {r : Addr} {F : CF} {c : Cs} (h : ChipAt C H r F c) : (r ≠ F.la ∧ r ≠ F.st ∧ r ≠ F.tr ∧ r ≠ F.cl ∧ r ≠ F.br ∧ r ≠ F.lg) ∧ (F.la ≠ F.st ∧ F.la ≠ F.tr ∧ F.la ≠ F.cl ∧ F.la ≠ F.br ∧ F.la ≠ F.lg) ∧ (F.st ≠ F.tr ∧ F.st ≠ F.cl ∧ F.st ≠ F.br ∧ F.st ≠ F.lg) ∧ (F.tr ≠ F.cl ∧ F.tr ≠ F.br ∧ F.tr ≠ F.lg) ∧ (F.cl ≠ F.br ∧ F.cl ≠ F.lg) ∧ F.br ≠ F.lg := by
  have d := h.nd
  unfold CF.all at d
  simp only [List.nodup_cons, List.mem_cons, List.not_mem_nil, or_false, not_or, not_false_eq_true, List.nodup_nil, and_true] at d
  exact ⟨d.1, d.2.1, d.2.2.1, d.2.2.2.1, d.2.2.2.2.1, d.2.2.2.2.2⟩
/-- tuples stay where a chip changes -/
theorem ChipAt.tups {C : Addr} {H H' : Hp} {r : Addr} {F : CF} {c : Cs} (h : ChipAt C H r F c) (s : Off (F.all r) H H') : TupS H H' := fun a xs e => by
  refine s a _ (fun m => ?_) e
  obtain ⟨vs, e7, _⟩ := h.lg
  unfold CF.all at m
  simp only [List.mem_cons, List.not_mem_nil, or_false] at m
  rcases m with rfl | rfl | rfl | rfl | rfl | rfl | rfl
  · rw [h.obj] at e; cases e
  · rw [h.la] at e; cases e
  · rw [h.st] at e; cases e
  · rw [h.tr] at e; cases e
  · rw [h.cl] at e; cases e
  · rw [h.br] at e; cases e
  · rw [e7] at e; cases e
theorem ChipAt.off {C : Addr} {H H' : Hp} {r : Addr} {F : CF} {c : Cs} {S : List Addr} (h : ChipAt C H r F c) (s : Off S H H') (n : ∀ a, a ∈ F.all r → a ∉ S) (ht : TupS H H') : ChipAt C H' r F c := by
  obtain ⟨vs, e, l⟩ := h.lg
  unfold CF.all at n
  exact ⟨s.at h.obj (n _ (by simp)), s.at h.la (n _ (by simp)), s.at h.st (n _ (by simp)), s.at h.tr (n _ (by simp)), s.at h.cl (n _ (by simp)), s.at h.br (n _ (by simp)), ⟨vs, s.at e (n _ (by simp)), l.mono ht⟩, h.nd, h.sz⟩
/-- a list that is another one's changes: tuples stay -/
theorem _root_.Kit.Off.tupsL {a : Addr} {H H' : Hp} {xs : List V} (s : Off [a] H H') (h : H a = some (.lst xs)) : TupS H H' := fun b ys e => s b _ (fun m => by rw [List.mem_singleton.mp m, h] at e; cases e) e
def Cs.dark (c : Cs) : Bool := decide (c.left = some 0)
/-- how an asking ends -/
inductive Res
  | ok
  | place
  | dark
  | failed (b : Int)
  | clear (n : Int)
  | value
def spDark (C : Addr) : Sp := fun vs H Q _ => ∃ r F c, vs = [.ref r] ∧ ChipAt C H r F c ∧ Q (.bl c.dark) H
theorem lv_eq0 {o : Option Int} : decide (lv o = .int 0) = decide (o = some 0) := by
  cases o with
  | none => rfl
  | some n => rw [decide_eq_decide]; simp [lv]
theorem lv_scal {o : Option Int} {n : Int} : scal (lv o) (.int n) = true := by cases o <;> rfl
theorem ok_Chip_is_dark (T : Txt K mg) : FO P w K mg base 1 T.a_Chip_is_dark T.fd_Chip_is_dark ["self"] (spDark T.C_Chip) := by
  have sc := sc_Chip_is_dark
  refine T.F_Chip_is_dark.okX sc (fun vs H Q E h => ?_) (fun cdv A outer s H vs Q E hr h => ?_)
  · obtain ⟨_, _, _, rfl, _⟩ := h
    rfl
  · obtain ⟨r, F, c, rfl, hC, q⟩ := h
    refine ⟨_, (pss_one (ps_ret (pe_cmpR (op_uEq hr.units) (pe_fld (pv 0) rfl) pe_int (nomark _)))), ?_⟩
    have o := hC.obj
    unfold chipF at o
    walk_at "begin"
    walk_at "go"
    refine x_eqSc lv_scal ?_
    rw [lv_eq0]
    exact q
theorem MO_dark (T : Txt K mg) : MO P w K mg base (L2.CX P w) 1 T.C_Chip "is_dark" (spDark T.C_Chip) := ⟨⟨_, _, _, T.cl_Chip, T.m_Chip_is_dark, ok_Chip_is_dark T, T.bd_Chip_is_dark⟩⟩
theorem x_mDark {T : Txt K mg} {H : Hp} {Q : VK} {E : XK} {σ : L2.St} {r : Addr} {F : CF} {c : Cs} (hC : ChipAt T.C_Chip H r F c) (q : Q (.bl c.dark) H) : mtK P w K mg base (L2.CX P w) 1 "is_dark" E σ tNil Q (.ref r) H :=
  x_mtK hC.obj (MO_dark T) rfl ⟨r, F, c, rfl, hC, q⟩
def spPower (T : Txt K mg) : Sp := fun vs H Q E => ∃ r F c, vs = [.ref r] ∧ ChipAt T.C_Chip H r F c ∧ (c.dark = false → Q .non H) ∧ (c.dark = true → E (.ref T.C_PowerGone) none H)
theorem ok_Chip_need_power (T : Txt K mg) : FO P w K mg base 2 T.a_Chip_need_power T.fd_Chip_need_power ["self"] (spPower T) := by
  have sc := sc_Chip_need_power
  refine T.F_Chip_need_power.okX sc (fun vs H Q E h => ?_) (fun cdv A outer s H vs Q E hr h => ?_)
  · obtain ⟨_, _, _, rfl, _⟩ := h
    rfl
  · obtain ⟨r, F, c, rfl, hC, q1, q2⟩ := h
    refine ⟨_, (pss_one (ps_if (pt_truth (pe_methD0 (k := 1) (pv 0) (hr.mono (by decide)) (passAt (takes_of rfl rfl rfl rfl))) (by intro _; rfl)) (pss_one (ps_raiseK rfl (takes_of rfl rfl rfl rfl) (pmk_ownK T.xc_PowerGone T.g_PowerGone rfl))) pss_nil)), ?_⟩
    walk_at "begin"
    walk_at "go"
    refine x_mDark hC ?_
    walk_at "go"
    refine x_iteB (fun h => ?_) (fun h => ?_)
    · walk_at "go"
      exact q2 h
    · walk_at "go"
      exact q1 h
theorem x_mPower {T : Txt K mg} {H : Hp} {Q : VK} {E : XK} {σ : L2.St} {r : Addr} {F : CF} {c : Cs} (hC : ChipAt T.C_Chip H r F c) (q1 : c.dark = false → Q .non H) (q2 : c.dark = true → E (.ref T.C_PowerGone) none H) : mtK P w K mg base (L2.CX P w) 2 "need_power" E σ tNil Q (.ref r) H :=
  x_mtK hC.obj ⟨⟨_, _, _, T.cl_Chip, T.m_Chip_need_power, ok_Chip_need_power T, T.bd_Chip_need_power⟩⟩ rfl ⟨r, F, c, rfl, hC, q1, q2⟩
def spPage (T : Txt K mg) : Sp := fun vs H Q E => ∃ r F c v o, vs = [.ref r, v] ∧ ChipAt T.C_Chip H r F c ∧ Num v o ∧ (inB o 0 (c.b * c.p - 1) = true → Q .non H) ∧ (inB o 0 (c.b * c.p - 1) = false → E (.ref T.C_NoPlace) none H)
theorem ok_Chip_need_page (T : Txt K mg) : FO P w K mg base 3 T.a_Chip_need_page T.fd_Chip_need_page ["self", "page"] (spPage T) := by
  have sc := sc_Chip_need_page
  refine T.F_Chip_need_page.okX sc (fun vs H Q E h => ?_) (fun cdv A outer s H vs Q E hr h => ?_)
  · obtain ⟨_, _, _, _, _, rfl, _⟩ := h
    rfl
  · obtain ⟨r, F, c, v, o, rfl, hC, hn, q1, q2⟩ := h
    refine ⟨_, (pss_one (ps_if (pt_not (pt_truth (pe_callS (ok_is_within T) (hr.mono (by decide)) (by rfl) T.g_is_within T.k_is_within T.bd_is_within (passAt (takes_of rfl rfl rfl rfl)) (pa_cons (pv 1) (pa_cons pe_int (pa_cons (pe_op op_sub (pe_callB (cr_ulen) (by rfl) T.b_len bt_len (pa_cons (pe_fld (pv 0) rfl) pa_nil)) pe_int) pa_nil)))) (by intro _; rfl))) (pss_one (ps_raiseK rfl (takes_of rfl rfl rfl rfl) (pmk_ownK T.xc_NoPlace T.g_NoPlace rfl))) pss_nil)), ?_⟩
    have ho := hC.obj
    have hst := hC.st
    have hsz := hC.sz.stuff
    unfold chipF at ho
    walk_at "begin"
    walk_at "go"
    rw [hsz]
    refine x_wNum hn ?_
    walk_at "go"
    refine x_iteB (fun h => ?_) (fun h => ?_)
    · walk_at "go"
      exact q1 h
    · walk_at "go"
      exact q2 h
theorem x_mPage {T : Txt K mg} {H : Hp} {Q : VK} {E : XK} {σ : L2.St} {r : Addr} {F : CF} {c : Cs} {t : TA} (hC : ChipAt T.C_Chip H r F c) (h : t σ H fun vs H2 => spPage T (.ref r :: vs) H2 Q E) : mtK P w K mg base (L2.CX P w) 3 "need_page" E σ t Q (.ref r) H :=
  x_mtK hC.obj ⟨⟨_, _, _, T.cl_Chip, T.m_Chip_need_page, ok_Chip_need_page T, T.bd_Chip_need_page⟩⟩ rfl h
theorem x_page {T : Txt K mg} {H : Hp} {Q : VK} {E : XK} {r : Addr} {F : CF} {c : Cs} {v : V} {o : Option Int} (hC : ChipAt T.C_Chip H r F c) (hn : Num v o) (q1 : inB o 0 (c.b * c.p - 1) = true → Q .non H) (q2 : inB o 0 (c.b * c.p - 1) = false → E (.ref T.C_NoPlace) none H) : spPage T [.ref r, v] H Q E := ⟨r, F, c, v, o, rfl, hC, hn, q1, q2⟩
def spBlock (T : Txt K mg) : Sp := fun vs H Q E => ∃ r F c v o, vs = [.ref r, v] ∧ ChipAt T.C_Chip H r F c ∧ Num v o ∧ (inB o 0 (c.b - 1) = true → Q .non H) ∧ (inB o 0 (c.b - 1) = false → E (.ref T.C_NoPlace) none H)
theorem ok_Chip_need_block (T : Txt K mg) : FO P w K mg base 3 T.a_Chip_need_block T.fd_Chip_need_block ["self", "block"] (spBlock T) := by
  have sc := sc_Chip_need_block
  refine T.F_Chip_need_block.okX sc (fun vs H Q E h => ?_) (fun cdv A outer s H vs Q E hr h => ?_)
  · obtain ⟨_, _, _, _, _, rfl, _⟩ := h
    rfl
  · obtain ⟨r, F, c, v, o, rfl, hC, hn, q1, q2⟩ := h
    refine ⟨_, (pss_one (ps_if (pt_not (pt_truth (pe_callS (ok_is_within T) (hr.mono (by decide)) (by rfl) T.g_is_within T.k_is_within T.bd_is_within (passAt (takes_of rfl rfl rfl rfl)) (pa_cons (pv 1) (pa_cons pe_int (pa_cons (pe_op op_sub (pe_fld (pv 0) rfl) pe_int) pa_nil)))) (by intro _; rfl))) (pss_one (ps_raiseK rfl (takes_of rfl rfl rfl rfl) (pmk_ownK T.xc_NoPlace T.g_NoPlace rfl))) pss_nil)), ?_⟩
    have ho := hC.obj
    unfold chipF at ho
    walk_at "begin"
    walk_at "go"
    refine x_wNum hn ?_
    walk_at "go"
    refine x_iteB (fun h => ?_) (fun h => ?_)
    · walk_at "go"
      exact q1 h
    · walk_at "go"
      exact q2 h
theorem x_mBlock {T : Txt K mg} {H : Hp} {Q : VK} {E : XK} {σ : L2.St} {r : Addr} {F : CF} {c : Cs} {t : TA} (hC : ChipAt T.C_Chip H r F c) (h : t σ H fun vs H2 => spBlock T (.ref r :: vs) H2 Q E) : mtK P w K mg base (L2.CX P w) 3 "need_block" E σ t Q (.ref r) H :=
  x_mtK hC.obj ⟨⟨_, _, _, T.cl_Chip, T.m_Chip_need_block, ok_Chip_need_block T, T.bd_Chip_need_block⟩⟩ rfl h
theorem x_block {T : Txt K mg} {H : Hp} {Q : VK} {E : XK} {r : Addr} {F : CF} {c : Cs} {v : V} {o : Option Int} (hC : ChipAt T.C_Chip H r F c) (hn : Num v o) (q1 : inB o 0 (c.b - 1) = true → Q .non H) (q2 : inB o 0 (c.b - 1) = false → E (.ref T.C_NoPlace) none H) : spBlock T [.ref r, v] H Q E := ⟨r, F, c, v, o, rfl, hC, hn, q1, q2⟩
/-! the refusals with a field -/
def SmallI (v : V) : Prop := ∃ n : Int, v = .int n ∧ 0 ≤ n ∧ n < 300
theorem ok_BlockFailed_init (T : Txt K mg) : FO P w K mg base 1 T.a_BlockFailed_init T.fd_BlockFailed_init ["self", "block"] (spXInit K T.C_BlockFailed "block" SmallI) := by
  have sc := sc_BlockFailed_init
  refine T.F_BlockFailed_init.okX sc (fun vs H Q E h => ?_) (fun cdv A outer s H vs Q E hr h => ?_)
  · obtain ⟨_, _, rfl, _⟩ := h
    rfl
  · obtain ⟨a, v, rfl, ⟨n, rfl, h0, h1⟩, o, hn, ha, q⟩ := h
    refine ⟨_, (pss_cons (ps_expr (pe_weinit T.wi_WornError rfl T.g_WornError (pa_cons (pv 0) (pa_cons (pe_op op_uAdd (pe_op op_uAdd pe_str (pe_callTy ct_str (by rfl) T.b_str bt_str (pa_cons (pv 1) pa_nil))) pe_str) pa_nil))))
      (pss_one (ps_ost (pv 0) (pv 1)))), ?_⟩
    have hlog := small_log h0 (by omega : n < 1000000)
    have hlen := str_len h0 h1
    have z1 : (Str.ofString "block ").length + (Str.ofString (toString n)).length ≤ sizeLine := line_len (by
      have e1 : (Str.ofString "block ").length = 6 := by decide
      omega)
    have z2 : (Str.ofString "block " ++ Str.ofString (toString n)).length + (Str.ofString " failed").length ≤ sizeLine := line_len (by
      have e1 : (Str.ofString "block ").length = 6 := by decide
      have e2 : (Str.ofString " failed").length = 7 := by decide
      have e3 : (Str.ofString "block " ++ Str.ofString (toString n)).length = (Str.ofString "block ").length + (Str.ofString (toString n)).length := PySem.Str.length_append _ _
      omega)
    walk_at "begin"
    walk_at "go"
    refine x_veK o ha ?_ (Nat.le_of_ble_eq_true rfl)
    dsimp only
    refine x_ost ?_
    walk_at "go"
    exact ⟨a, _, rfl, o, hn, .inl ⟨ha, q⟩⟩
theorem ok_NotClear_init (T : Txt K mg) : FO P w K mg base 1 T.a_NotClear_init T.fd_NotClear_init ["self", "page"] (spXInit K T.C_NotClear "page" SmallI) := by
  have sc := sc_NotClear_init
  refine T.F_NotClear_init.okX sc (fun vs H Q E h => ?_) (fun cdv A outer s H vs Q E hr h => ?_)
  · obtain ⟨_, _, rfl, _⟩ := h
    rfl
  · obtain ⟨a, v, rfl, ⟨n, rfl, h0, h1⟩, o, hn, ha, q⟩ := h
    refine ⟨_, (pss_cons (ps_expr (pe_weinit T.wi_WornError rfl T.g_WornError (pa_cons (pv 0) (pa_cons (pe_op op_uAdd (pe_op op_uAdd pe_str (pe_callTy ct_str (by rfl) T.b_str bt_str (pa_cons (pv 1) pa_nil))) pe_str) pa_nil))))
      (pss_one (ps_ost (pv 0) (pv 1)))), ?_⟩
    have hlog := small_log h0 (by omega : n < 1000000)
    have hlen := str_len h0 h1
    have z1 : (Str.ofString "page ").length + (Str.ofString (toString n)).length ≤ sizeLine := line_len (by
      have e1 : (Str.ofString "page ").length = 5 := by decide
      omega)
    have z2 : (Str.ofString "page " ++ Str.ofString (toString n)).length + (Str.ofString " is not clear").length ≤ sizeLine := line_len (by
      have e1 : (Str.ofString "page ").length = 5 := by decide
      have e2 : (Str.ofString " is not clear").length = 13 := by decide
      have e3 : (Str.ofString "page " ++ Str.ofString (toString n)).length = (Str.ofString "page ").length + (Str.ofString (toString n)).length := PySem.Str.length_append _ _
      omega)
    walk_at "begin"
    walk_at "go"
    refine x_veK o ha ?_ (Nat.le_of_ble_eq_true rfl)
    dsimp only
    refine x_ost ?_
    walk_at "go"
    exact ⟨a, _, rfl, o, hn, .inl ⟨ha, q⟩⟩
def spGoodB (T : Txt K mg) : Sp := fun vs H Q E => ∃ (r : Addr) (F : CF) (c : Cs) (n : Int), vs = [.ref r, .int n] ∧ ChipAt T.C_Chip H r F c ∧ 0 ≤ n ∧ n < c.b ∧ (c.broken.getD n.toNat false = false → Q .non H) ∧
  (c.broken.getD n.toNat false = true → ∀ d H1, Same H H1 → H d = none → H1 d = some (.xd [("block", .int n)]) → E (.ref T.C_BlockFailed) (some d) H1)
theorem ok_Chip_need_good (T : Txt K mg) : FO P w K mg base 3 T.a_Chip_need_good T.fd_Chip_need_good ["self", "block"] (spGoodB T) := by
  have sc := sc_Chip_need_good
  refine T.F_Chip_need_good.okX sc (fun vs H Q E h => ?_) (fun cdv A outer s H vs Q E hr h => ?_)
  · obtain ⟨_, _, _, _, rfl, _⟩ := h
    rfl
  · obtain ⟨r, F, c, n, rfl, hC, h0, h1, q1, q2⟩ := h
    refine ⟨_, (pss_one (ps_if (pt_truth (pe_ix ix_seq (pe_fld (pv 0) rfl) (pv 1) (fun _ _ => rfl)) (by intro _; rfl)) (pss_one (ps_raiseK rfl (takes_of rfl rfl rfl rfl) (pmk_oex T.xi_BlockFailed.o T.xi_BlockFailed.i T.xi_BlockFailed.t (ok_BlockFailed_init T) (hr.mono (by decide)) T.bd_BlockFailed_init .nil passE0 rfl T.g_BlockFailed (pa_cons (pv 1) pa_nil)))) pss_nil)), ?_⟩
    have ho := hC.obj
    have hbr := hC.br
    have hsz := hC.sz.broken
    have hb := hC.sz.b
    unfold chipF at ho
    walk_at "begin"
    walk_at "go"
    refine x_iteB (fun h => ?_) (fun h => ?_)
    · walk_at "go"
      refine x_moK ⟨n, rfl, h0, by omega⟩ (fun d H1 hd hs hx => q2 h d H1 hs hd hx) T.xi_BlockFailed.o T.nx_BlockFailed_block
    · walk_at "go"
      exact q1 h
theorem x_mGoodB {T : Txt K mg} {H : Hp} {Q : VK} {E : XK} {σ : L2.St} {r : Addr} {F : CF} {c : Cs} {t : TA} (hC : ChipAt T.C_Chip H r F c) (h : t σ H fun vs H2 => spGoodB T (.ref r :: vs) H2 Q E) : mtK P w K mg base (L2.CX P w) 3 "need_good" E σ t Q (.ref r) H :=
  x_mtK hC.obj ⟨⟨_, _, _, T.cl_Chip, T.m_Chip_need_good, ok_Chip_need_good T, T.bd_Chip_need_good⟩⟩ rfl h
/-! a deed begins -/
def Cs.tick (c : Cs) (n : Nat) (well : Bool) : Cs := { c with left := c.left.map (· - 1), tried := c.tried.set n (c.tried.getD n 0 + 1), broken := c.broken.set n (!well) }
def Cs.well (c : Cs) (n : Nat) (worn : Bool) : Bool := !worn && !decide (V.int (c.tried.getD n 0) = c.lasts.getD n .non)
theorem Sizes.tick {c : Cs} (h : Sizes c) (n : Nat) (well : Bool) : Sizes (c.tick n well) := ⟨h.b, h.p, h.m, h.lasts, h.stuff, by show ((c.tried.set _ _).length : Int) = _; rw [List.length_set]; exact h.tried, h.clr, by show ((c.broken.set _ _).length : Int) = _; rw [List.length_set]; exact h.broken, h.lsc⟩
def spGoes (T : Txt K mg) : Sp := fun vs H Q _ => ∃ (r : Addr) (F : CF) (c : Cs) (n : Int) (worn : Bool), vs = [.ref r, .int n, .bl worn] ∧ ChipAt T.C_Chip H r F c ∧ 0 ≤ n ∧ n < c.b ∧
  ∀ H', Off (F.all r) H H' → ChipAt T.C_Chip H' r F (c.tick n.toNat (c.well n.toNat worn)) → Q (.bl (c.well n.toNat worn)) H'
theorem lsc_scal {c : Cs} (h : Sizes c) {n : Nat} (hn : (n : Int) < c.b) {m : Int} : scal (.int m) (c.lasts.getD n .non) = true := by
  have hl := h.lasts
  have hlt : n < c.lasts.length := by omega
  rcases h.lsc _ (List.getElem_mem hlt) with e | ⟨k, e⟩ <;> simp [hlt, e, scal]
theorem ok_Chip_goes_well (T : Txt K mg) : FO P w K mg base 1 T.a_Chip_goes_well T.fd_Chip_goes_well ["self", "block", "worn"] (spGoes T) := by
  have sc := sc_Chip_goes_well
  refine T.F_Chip_goes_well.okX sc (fun vs H Q E h => ?_) (fun cdv A outer s H vs Q E hr h => ?_)
  · obtain ⟨_, _, _, _, _, rfl, _⟩ := h
    rfl
  · obtain ⟨r, F, c, n, worn, rfl, hC, h0, h1, q⟩ := h
    refine ⟨_, (pss_cons (ps_if (pt_cmpR op_uIsNot (pe_fld (pv 0) rfl) pe_non (nomark _)) (pss_one (ps_fldaug (pv 0) pe_int in_sub)) pss_nil)
      (pss_cons (ps_set (i := 3) sc.nd rfl (by first | exact Or.inl rfl | exact Or.inr rfl) (pe_andT (pe_notT (pv 2)) (pe_one (pe_cmpR (op_uNe hr.units) (pe_ix ix_seq (pe_fld (pv 0) rfl) (pv 1) (fun _ _ => rfl)) (pe_ix ix_seq (pe_fld (pv 0) rfl) (pv 1) (fun _ _ => rfl)) (nomark _)))))
      (pss_cons (ps_augS (pe_fld (pv 0) rfl) (pv 1) get_list pe_int ip_add set_list)
      (pss_cons (ps_asg (pe_notT (pv 3)) (pg_sub (pe_fld (pv 0) rfl) (pv 1) set_list))
      (pss_one (ps_ret (pv 3))))))), ?_⟩
    obtain ⟨⟨n1, n2, n3, n4, n5, n6⟩, ⟨n7, n8, n9, n10, n11⟩, ⟨n12, n13, n14, n15⟩, ⟨n16, n17, n18⟩, ⟨n19, n20⟩, n21⟩ := hC.ne
    have ho := hC.obj
    have hla := hC.la
    have hst := hC.st
    have htr := hC.tr
    have hcl := hC.cl
    have hbr := hC.br
    have hsz := hC.sz
    obtain ⟨lvs, hlg, hlog⟩ := hC.lg
    have z1 := hsz.lasts
    have z2 := hsz.tried
    have z3 := hsz.broken
    unfold chipF at ho
    walk_at "begin"
    refine x_join (fun σ' H1 => σ' = [some (.ref r), some (.int n), some (.bl worn), none] ∧ Off [r] H H1 ∧ H1 r = some (.ins T.C_Chip F.dx (chipF F (c.tick n.toNat (c.well n.toNat worn))))) (fun R hR => ?_) ?_
    · walk_at "go"
      cases hl : c.left with
      | none =>
        rw [hl] at ho
        refine iteT ?_
        walk_at "go"
        refine hR _ _ ⟨rfl, Off.refl, ?_⟩
        rw [ho]
        unfold chipF Cs.tick
        rw [hl]
        rfl
      | some m =>
        rw [hl] at ho
        refine iteF ?_
        walk_at "go"
        refine x_faK ho rfl ?_ T.cl_Chip T.na_Chip_left
        walk_at "go"
        refine x_rSub ?_
        refine x_f3O (fs' := chipF F (c.tick n.toNat (c.well n.toNat worn))) ho ?_ (fun H1 hO hI => ?_) (Nat.le_of_ble_eq_true rfl)
        · unfold chipF Cs.tick
          rw [hl]
          rfl
        · exact hR _ _ ⟨rfl, hO, hI⟩
    intro σ' H1 ⟨hσ, hO1, ho1⟩
    subst hσ
    have ho1' := ho1
    unfold chipF at ho1
    refine x_join (fun σ' H' => σ' = [some (.ref r), some (.int n), some (.bl worn), some (.bl (c.well n.toNat worn))] ∧ H' = H1) (fun R hR => ?_) ?_
    · walk_at "go"
      cases worn with
      | true => exact iteT (hR _ _ ⟨rfl, rfl⟩)
      | false =>
        refine iteF ?_
        walk_at "go"
        refine x_neSc (lsc_scal hsz (n := n.toNat) (by omega)) ?_
        exact hR _ _ ⟨rfl, rfl⟩
    intro σ' H' ⟨hσ, hH⟩
    subst hσ hH
    walk_at "go"
    rename_i H2 hO2 hI2 H3 hO3 hI3
    have f1 : H3 r = some (.ins T.C_Chip F.dx (chipF F (c.tick n.toNat (c.well n.toNat worn)))) := by walk_at "hp"
    have f2 : H3 F.la = some (.lst c.lasts) := by walk_at "hp"
    have f3 : H3 F.st = some (.lst c.stuff) := by walk_at "hp"
    have f4 : H3 F.cl = some (.lst (c.clr.map V.int)) := by walk_at "hp"
    have f5 : H3 F.lg = some (.lst lvs) := by walk_at "hp"
    have f6 : H3 F.tr = some (.lst ((c.tried.set n.toNat (c.tried.getD n.toNat 0 + 1)).map V.int)) := by
      rw [List.map_set]
      walk_at "hp"
    have f7 : H3 F.br = some (.lst ((c.broken.set n.toNat (!c.well n.toNat worn)).map V.bl)) := by
      rw [List.map_set]
      exact hI3
    have hoff : Off (F.all r) H H3 := by unfold CF.all; walk_at "off"
    exact q H3 hoff ⟨f1, f2, f3, f6, f4, f7, ⟨lvs, f5, hlog.mono (hC.tups hoff)⟩, hC.nd, hsz.tick _ _⟩
theorem x_mGoes {T : Txt K mg} {H : Hp} {Q : VK} {E : XK} {σ : L2.St} {r : Addr} {F : CF} {c : Cs} {t : TA} (hC : ChipAt T.C_Chip H r F c) (h : t σ H fun vs H2 => spGoes T (.ref r :: vs) H2 Q E) : mtK P w K mg base (L2.CX P w) 1 "goes_well" E σ t Q (.ref r) H :=
  x_mtK hC.obj ⟨⟨_, _, _, T.cl_Chip, T.m_Chip_goes_well, ok_Chip_goes_well T, T.bd_Chip_goes_well⟩⟩ rfl h
/-- how an asking ends, in a heap -/
def Fin (T : Txt K mg) (res : Res) (Qn : Hp → Prop) (E : XK) (H' : Hp) : Prop := match res with
  | .ok => Qn H'
  | .place => E (.ref T.C_NoPlace) none H'
  | .dark => E (.ref T.C_PowerGone) none H'
  | .failed b => ∀ d, H' d = some (.xd [("block", .int b)]) → E (.ref T.C_BlockFailed) (some d) H'
  | .clear n => ∀ d, H' d = some (.xd [("page", .int n)]) → E (.ref T.C_NotClear) (some d) H'
  | .value => False
theorem x_finOk {T : Txt K mg} {Qn : Hp → Prop} {E : XK} {H' : Hp} (h : Qn H') : Fin T .ok Qn E H' := h
theorem x_finDark {T : Txt K mg} {Qn : Hp → Prop} {E : XK} {H' : Hp} (h : E (.ref T.C_PowerGone) none H') : Fin T .dark Qn E H' := h
/-! ### put -/
def Cs.said (c : Cs) (k : Nat) (w : Bool) (e : Str × Int) : Cs := { c.tick k w with log := c.log ++ [(e.1, e.2, w)] }
def Cs.putR (c : Cs) (o : Option Int) (v : V) : Res × Cs :=
  if inB o 0 (c.b * c.p - 1) = false then (.place, c) else if c.dark = true then (.dark, c)
  else if c.broken.getD (o.getD 0 / c.p).toNat false = true then (.failed (o.getD 0 / c.p), c)
  else if c.stuff.getD (o.getD 0).toNat .non ≠ .non then (.clear (o.getD 0), c)
  else if c.well (o.getD 0 / c.p).toNat false = true then (.ok, { c.said (o.getD 0 / c.p).toNat true ("put", o.getD 0) with stuff := c.stuff.set (o.getD 0).toNat v })
  else (.failed (o.getD 0 / c.p), c.said (o.getD 0 / c.p).toNat false ("put", o.getD 0))
theorem Sizes.said {c : Cs} (h : Sizes c) (n : Nat) (w : Bool) (e : Str × Int) : Sizes (c.said n w e) := ⟨(h.tick n w).b, h.p, h.m, h.lasts, h.stuff, (h.tick n w).tried, h.clr, (h.tick n w).broken, h.lsc⟩
theorem LogAll.snoc {H : Hp} {vs : List V} {es : List (Str × Int × Bool)} {v : V} {e : Str × Int × Bool} (h : LogAll H vs es) (hv : LogAt H v e) : LogAll H (vs ++ [v]) (es ++ [e]) := by
  refine ⟨by simp [h.1], fun i x y h1 h2 => ?_⟩
  by_cases hi : i < vs.length
  · rw [List.getElem?_append_left hi] at h1
    rw [List.getElem?_append_left (h.1 ▸ hi)] at h2
    exact h.2 i x y h1 h2
  · have e : i = vs.length := by
      have := (List.getElem?_eq_some_iff.mp h1).1
      simp at this
      omega
    subst e
    rw [List.getElem?_append_right (Nat.le_refl _)] at h1
    rw [h.1, List.getElem?_append_right (Nat.le_refl _)] at h2
    simp at h1 h2
    subst h1 h2
    exact hv
local macro_rules | `(tactic| walk_at "u") => `(tactic| ((with_reducible refine' x_appO ?ho ?_ ?hl); (case ho => walk_at "hp"); (try (case hl => walk_at "side")); intro H1 hO hI; (try dsimp only)))
def spPut (T : Txt K mg) : Sp := fun vs H Q E => ∃ (r : Addr) (F : CF) (c : Cs) (vp v : V) (o : Option Int), vs = [.ref r, vp, v] ∧ ChipAt T.C_Chip H r F c ∧ Num vp o ∧ c.log.length < 900000 ∧
  ∀ H', Off (F.all r) H H' → ChipAt T.C_Chip H' r F (c.putR o v).2 → Fin T (c.putR o v).1 (Q .non) E H'
theorem ok_Chip_put (T : Txt K mg) : FO P w K mg base 4 T.a_Chip_put T.fd_Chip_put ["self", "page", "stuff"] (spPut T) := by
  have sc := sc_Chip_put
  refine T.F_Chip_put.okX sc (fun vs H Q E h => ?_) (fun cdv A outer s H vs Q E hr h => ?_)
  · obtain ⟨_, _, _, _, _, _, rfl, _⟩ := h
    rfl
  · obtain ⟨r, F, c, vp, v, o, rfl, hC, hn, hll, q⟩ := h
    refine ⟨_, (pss_cons (ps_expr (pe_methD (k := 3) (pv 0) (hr.mono (by decide)) (passAt (takes_of rfl rfl rfl rfl)) (pa_cons (pv 1) pa_nil)))
      (pss_cons (ps_expr (pe_methD0 (k := 2) (pv 0) (hr.mono (by decide)) (passAt (takes_of rfl rfl rfl rfl))))
      (pss_cons (ps_set (i := 3) sc.nd rfl (by first | exact Or.inl rfl | exact Or.inr rfl) (pe_op op_fdivW (pv 1) (pe_fld (pv 0) rfl)))
      (pss_cons (ps_expr (pe_methD (k := 3) (pv 0) (hr.mono (by decide)) (passAt (takes_of rfl rfl rfl rfl)) (pa_cons (pv 3) pa_nil)))
      (pss_cons (ps_if (pt_cmpR op_uIsNot (pe_ix ix_seq (pe_fld (pv 0) rfl) (pv 1) (fun _ _ => rfl)) pe_non (nomark _)) (pss_one (ps_raiseK rfl (takes_of rfl rfl rfl rfl) (pmk_oex T.xi_NotClear.o T.xi_NotClear.i T.xi_NotClear.t (ok_NotClear_init T) (hr.mono (by decide)) T.bd_NotClear_init .nil passE0 rfl T.g_NotClear (pa_cons (pv 1) pa_nil)))) pss_nil)
      (pss_cons (ps_set (i := 4) sc.nd rfl (by first | exact Or.inl rfl | exact Or.inr rfl) (pe_methD (k := 1) (pv 0) (hr.mono (by decide)) (passAt (takes_of rfl rfl rfl rfl)) (pa_cons (pv 3) (pa_cons pe_bl pa_nil))))
      (pss_cons (ps_expr (pe_bm PySem.F.plainAttrs_list PySem.F.slot_list_append PySem.F.type_list_append mt_append (pe_fld (pv 0) rfl) (pa_cons (pe_tup (pa_cons pe_str (pa_cons (pv 1) (pa_cons (pv 4) pa_nil)))) pa_nil)))
      (pss_cons (ps_if (pt_not (pt_truth (pv 4) (by intro _; rfl))) (pss_one (ps_raiseK rfl (takes_of rfl rfl rfl rfl) (pmk_oex T.xi_BlockFailed.o T.xi_BlockFailed.i T.xi_BlockFailed.t (ok_BlockFailed_init T) (hr.mono (by decide)) T.bd_BlockFailed_init .nil passE0 rfl T.g_BlockFailed (pa_cons (pv 3) pa_nil)))) pss_nil)
      (pss_one (ps_asg (pv 2) (pg_sub (pe_fld (pv 0) rfl) (pv 1) set_list))))))))))), ?_⟩
    unfold Cs.putR at q
    have hsz := hC.sz
    obtain ⟨hb1, hb2⟩ := hsz.b
    obtain ⟨hp1, hp2⟩ := hsz.p
    walk_at "begin"
    walk_at "go"
    refine x_mPage hC ?_
    walk_at "go"
    refine x_page hC hn (fun hin => ?_) (fun hin => ?_)
    rotate_left
    · rw [if_pos hin] at q
      exact q H Off.refl hC
    rw [if_neg (by rw [hin]; decide)] at q
    obtain ⟨n, rfl, rfl, h0, h1⟩ := hn.of_inB hin
    dsimp only [Option.getD] at q
    have hk0 : 0 ≤ n / c.p := Int.ediv_nonneg h0 (by omega)
    have hk1 : n / c.p < c.b := Int.ediv_lt_of_lt_mul (by omega) (by omega)
    walk_at "go"
    refine x_mPower hC (fun hd => ?_) (fun hd => ?_)
    rotate_left
    · rw [if_pos hd] at q
      exact q H Off.refl hC
    rw [if_neg (by rw [hd]; decide)] at q
    have ho := hC.obj
    unfold chipF at ho
    have hst := hC.st
    have z4 := hsz.stuff
    walk_at "go"
    refine x_mGoodB hC ?_
    walk_at "go"
    refine ⟨r, F, c, _, rfl, hC, hk0, hk1, fun hg => ?_, fun hg d H1 hs hd1 hx => ?_⟩
    rotate_left
    · rw [if_pos hg] at q
      exact q H1 (Off.of hs) (hC.mono hs) d hx
    rw [if_neg (by rw [hg]; decide)] at q
    walk_at "go"
    walk_at "if"
    have hbp : c.b * c.p ≤ 16 * 16 := Int.mul_le_mul hb2 hp2 (by omega) (by decide)
    refine x_iteD (fun hcl => ?_) (fun hcl => ?_)
    rotate_left
    · walk_at "go"
      refine x_moK ⟨n, rfl, h0, by omega⟩ (fun d H1 hd hs hx => ?_) T.xi_NotClear.o T.nx_NotClear_page
      rw [if_pos hcl] at q
      exact q H1 (Off.of hs) (hC.mono hs) d hx
    rw [if_neg (fun z => z hcl)] at q
    walk_at "go"
    refine x_mGoes hC ?_
    walk_at "go"
    refine ⟨r, F, c, n / c.p, false, rfl, hC, hk0, hk1, fun H1 hO1 hC1 => ?_⟩
    obtain ⟨⟨n1, n2, n3, n4, n5, n6⟩, ⟨n7, n8, n9, n10, n11⟩, ⟨n12, n13, n14, n15⟩, ⟨n16, n17, n18⟩, ⟨n19, n20⟩, n21⟩ := hC.ne
    have hsz1 := hsz.said (n / c.p).toNat (c.well (n / c.p).toNat false) ("put", n)
    have hlog := hC1.lg
    have o1' := hC1.obj
    have a1 := hC1.la
    have a2 := hC1.st
    have a3 := hC1.tr
    have a4 := hC1.cl
    have a5 := hC1.br
    obtain ⟨lvs, hlg, hla⟩ := hlog
    have hlv : lvs.length < sizeLine := Nat.lt_of_lt_of_le (m := 900000) (by rw [hla.1]; exact hll) (by decide)
    have hla1 : LogAll H1 lvs c.log := hla
    obtain ⟨w, hw⟩ : ∃ w, c.well (n / c.p).toNat false = w := ⟨_, rfl⟩
    have qT : w = true → ∀ H', Off (F.all r) H H' → ChipAt T.C_Chip H' r F { c.said (n / c.p).toNat true ("put", n) with stuff := c.stuff.set n.toNat v } → Q .non H' := fun h => by
      rw [if_pos (hw.trans h)] at q
      exact q
    have qF : w = false → ∀ H', Off (F.all r) H H' → ChipAt T.C_Chip H' r F (c.said (n / c.p).toNat false ("put", n)) → ∀ d, H' d = some (.xd [("block", .int (n / c.p))]) → E (.ref T.C_BlockFailed) (some d) H' := fun h => by
      rw [if_neg (by rw [hw, h]; decide)] at q
      exact q
    clear q
    rw [hw] at o1' a1 a2 a3 a4 a5 hsz1 hC1 ⊢
    have o1 := o1'
    unfold chipF at o1
    have hoff1 := hO1
    have hO1 := hoff1
    clear hO1
    walk_at "go"
    rename_i qt H2 hqt hs2 hn2 H3 hO3 hI3
    have f1 : H3 r = some (.ins T.C_Chip F.dx (chipF F (c.tick (n / c.p).toNat w))) := by walk_at "hp"
    have f2 : H3 F.la = some (.lst c.lasts) := by walk_at "hp"
    have f3 : H3 F.st = some (.lst c.stuff) := by walk_at "hp"
    have f4 : H3 F.cl = some (.lst (c.clr.map V.int)) := by walk_at "hp"
    have f6 : H3 F.tr = some (.lst ((c.tick (n / c.p).toNat w).tried.map V.int)) := by walk_at "hp"
    have f7 : H3 F.br = some (.lst ((c.tick (n / c.p).toNat w).broken.map V.bl)) := by walk_at "hp"
    have hoff13 : Off (F.all r) H1 H3 := by unfold CF.all; walk_at "off"
    have hoff3 := hoff1.trans hoff13
    have hq3 : H3 qt = some (.tup [.str "put", .int n, .bl w]) := hO3.at hn2 (nin_of (ne_of_none hlg hqt).symm)
    have hla3 : LogAll H3 (lvs ++ [.ref qt]) (c.log ++ [(("put" : Str), n, w)]) := ((hla1.mono (hC1.tups hoff13))).snoc ⟨qt, rfl, hq3⟩
    have hC3 : ChipAt T.C_Chip H3 r F (c.said (n / c.p).toNat w ("put", n)) := ⟨f1, f2, f3, f6, f4, f7, ⟨_, hI3, hla3⟩, hC.nd, hsz1⟩
    refine x_join (fun σ' H' => σ' = [some (.ref r), some (.int n), some v, some (.int (n / c.p)), some (.bl w)] ∧ H' = H3 ∧ w = true) (fun R hR => ?_) ?_
    · walk_at "go"
      refine x_iteB (fun h => ?_) (fun h => ?_)
      · walk_at "go"
        exact hR _ _ ⟨rfl, rfl, h⟩
      · subst h
        walk_at "go"
        refine x_moK ⟨n / c.p, rfl, hk0, by omega⟩ (fun d H4 hd hs hx => ?_) T.xi_BlockFailed.o T.nx_BlockFailed_block
        exact qF rfl H4 (hoff3.trans (Off.of hs)) (hC3.mono hs) d hx
    intro σ' H' ⟨hσ, hH, hwt⟩
    subst hσ hH hwt
    unfold chipF at f1
    have hC3' := hC3
    clear hoff13
    have hst3 : (n : Int) < c.stuff.length := by omega
    walk_at "go"
    rename_i H4 hO4 hI4
    have g1 : H4 r = some (.ins T.C_Chip F.dx (chipF F (c.tick (n / c.p).toNat true))) := by unfold chipF; walk_at "hp"
    have g2 : H4 F.la = some (.lst c.lasts) := by walk_at "hp"
    have g4 : H4 F.cl = some (.lst (c.clr.map V.int)) := by walk_at "hp"
    have g6 : H4 F.tr = some (.lst ((c.tick (n / c.p).toNat true).tried.map V.int)) := by walk_at "hp"
    have g7 : H4 F.br = some (.lst ((c.tick (n / c.p).toNat true).broken.map V.bl)) := by walk_at "hp"
    have g8 : H4 F.lg = some (.lst (lvs ++ [.ref qt])) := by walk_at "hp"
    have hoff34 : Off (F.all r) H' H4 := by unfold CF.all; walk_at "off"
    exact qT rfl H4 (hoff3.trans hoff34) ⟨g1, g2, hI4, g6, g4, g7, ⟨_, g8, hla3.mono (hC3'.tups hoff34)⟩, hC.nd, ⟨hsz1.b, hsz1.p, hsz1.m, hsz1.lasts, by show ((c.stuff.set _ _).length : Int) = _; rw [List.length_set]; exact hsz.stuff, hsz1.tried, hsz1.clr, hsz1.broken, hsz1.lsc⟩⟩
theorem x_mPut {T : Txt K mg} {H : Hp} {Q : VK} {E : XK} {σ : L2.St} {r : Addr} {F : CF} {c : Cs} {t : TA} (hC : ChipAt T.C_Chip H r F c) (h : t σ H fun vs H2 => spPut T (.ref r :: vs) H2 Q E) : mtK P w K mg base (L2.CX P w) 4 "put" E σ t Q (.ref r) H :=
  x_mtK hC.obj ⟨⟨_, _, _, T.cl_Chip, T.m_Chip_put, ok_Chip_put T, T.bd_Chip_put⟩⟩ rfl h
/-! ### wipe -/
/-- the pages of a block, put back to nothing: the first i of them -/
def blankN (l : List V) (s : Nat) : Nat → List V
  | 0 => l
  | i + 1 => (blankN l s i).set (s + i) .non
theorem blankN_len (l : List V) (s : Nat) : ∀ i, (blankN l s i).length = l.length
  | 0 => rfl
  | i + 1 => by
    show ((blankN l s i).set _ _).length = _
    rw [List.length_set, blankN_len l s i]
def Cs.wipeR (c : Cs) (o : Option Int) : Res × Cs :=
  if inB o 0 (c.b - 1) = false then (.place, c) else if c.dark = true then (.dark, c)
  else if c.broken.getD (o.getD 0).toNat false = true then (.failed (o.getD 0), c)
  else if c.well (o.getD 0).toNat (decide (c.clr.getD (o.getD 0).toNat 0 = c.m)) = true then (.ok, { c.said (o.getD 0).toNat true ("wipe", o.getD 0) with clr := c.clr.set (o.getD 0).toNat (c.clr.getD (o.getD 0).toNat 0 + 1), stuff := blankN c.stuff ((o.getD 0).toNat * c.p.toNat) c.p.toNat })
  else (.failed (o.getD 0), c.said (o.getD 0).toNat false ("wipe", o.getD 0))
def spWipe (T : Txt K mg) : Sp := fun vs H Q E => ∃ (r : Addr) (F : CF) (c : Cs) (vp : V) (o : Option Int), vs = [.ref r, vp] ∧ ChipAt T.C_Chip H r F c ∧ Num vp o ∧ c.log.length < 900000 ∧
  ∀ H', Off (F.all r) H H' → ChipAt T.C_Chip H' r F (c.wipeR o).2 → Fin T (c.wipeR o).1 (Q .non) E H'
theorem ok_Chip_wipe (T : Txt K mg) : FO P w K mg base 4 T.a_Chip_wipe T.fd_Chip_wipe ["self", "block"] (spWipe T) := by
  have sc := sc_Chip_wipe
  refine T.F_Chip_wipe.okX sc (fun vs H Q E h => ?_) (fun cdv A outer s H vs Q E hr h => ?_)
  · obtain ⟨_, _, _, _, _, rfl, _⟩ := h
    rfl
  · obtain ⟨r, F, c, vp, o, rfl, hC, hn, hll, q⟩ := h
    refine ⟨_, (pss_cons (ps_expr (pe_methD (k := 3) (pv 0) (hr.mono (by decide)) (passAt (takes_of rfl rfl rfl rfl)) (pa_cons (pv 1) pa_nil)))
      (pss_cons (ps_expr (pe_methD0 (k := 2) (pv 0) (hr.mono (by decide)) (passAt (takes_of rfl rfl rfl rfl))))
      (pss_cons (ps_expr (pe_methD (k := 3) (pv 0) (hr.mono (by decide)) (passAt (takes_of rfl rfl rfl rfl)) (pa_cons (pv 1) pa_nil)))
      (pss_cons (ps_set (i := 2) sc.nd rfl (by first | exact Or.inl rfl | exact Or.inr rfl) (pe_methD (k := 1) (pv 0) (hr.mono (by decide)) (passAt (takes_of rfl rfl rfl rfl)) (pa_cons (pv 1) (pa_cons (pe_cmpR (op_uEq hr.units) (pe_ix ix_seq (pe_fld (pv 0) rfl) (pv 1) (fun _ _ => rfl)) (pe_fld (pv 0) rfl) (nomark _)) pa_nil))))
      (pss_cons (ps_expr (pe_bm PySem.F.plainAttrs_list PySem.F.slot_list_append PySem.F.type_list_append mt_append (pe_fld (pv 0) rfl) (pa_cons (pe_tup (pa_cons pe_str (pa_cons (pv 1) (pa_cons (pv 2) pa_nil)))) pa_nil)))
      (pss_cons (ps_if (pt_not (pt_truth (pv 2) (by intro _; rfl))) (pss_one (ps_raiseK rfl (takes_of rfl rfl rfl rfl) (pmk_oex T.xi_BlockFailed.o T.xi_BlockFailed.i T.xi_BlockFailed.t (ok_BlockFailed_init T) (hr.mono (by decide)) T.bd_BlockFailed_init .nil passE0 rfl T.g_BlockFailed (pa_cons (pv 1) pa_nil)))) pss_nil)
      (pss_cons (ps_augS (pe_fld (pv 0) rfl) (pv 1) get_list pe_int ip_add set_list)
      (pss_one (ps_for (passes_of rfl) rfl (pi_range1 (by rfl) T.b_range (pa_cons (pe_fld (pv 0) rfl) pa_nil)) (pg_name (i := 3) sc.nd rfl (by first | exact Or.inl rfl | exact Or.inr rfl)) (pss_one (ps_asg pe_non (pg_sub (pe_fld (pv 0) rfl) (pe_op op_uAdd (pe_op op_uMul (pv 1) (pe_fld (pv 0) rfl)) (pv 3)) set_list)))))))))))), ?_⟩
    unfold Cs.wipeR at q
    have hsz := hC.sz
    obtain ⟨hb1, hb2⟩ := hsz.b
    obtain ⟨hp1, hp2⟩ := hsz.p
    walk_at "begin"
    walk_at "go"
    refine x_mBlock hC ?_
    walk_at "go"
    refine x_block hC hn (fun hin => ?_) (fun hin => ?_)
    rotate_left
    · rw [if_pos hin] at q
      exact q H Off.refl hC
    rw [if_neg (by rw [hin]; decide)] at q
    obtain ⟨n, rfl, rfl, h0, h1⟩ := hn.of_inB hin
    dsimp only [Option.getD_some] at q
    walk_at "go"
    refine x_mPower hC (fun hd => ?_) (fun hd => ?_)
    rotate_left
    · rw [if_pos hd] at q
      exact q H Off.refl hC
    rw [if_neg (by rw [hd]; decide)] at q
    walk_at "go"
    refine x_mGoodB hC ?_
    walk_at "go"
    refine ⟨r, F, c, _, rfl, hC, h0, by omega, fun hg => ?_, fun hg d H1 hs hd1 hx => ?_⟩
    rotate_left
    · rw [if_pos hg] at q
      exact q H1 (Off.of hs) (hC.mono hs) d hx
    rw [if_neg (by rw [hg]; decide)] at q
    have ho := hC.obj
    unfold chipF at ho
    have hcl := hC.cl
    have z4 := hsz.clr
    walk_at "go"
    refine x_mGoes hC ?_
    walk_at "go"
    refine ⟨r, F, c, n, decide (c.clr.getD n.toNat 0 = c.m), rfl, hC, h0, by omega, fun H1 hO1 hC1 => ?_⟩
    obtain ⟨⟨n1, n2, n3, n4, n5, n6⟩, ⟨n7, n8, n9, n10, n11⟩, ⟨n12, n13, n14, n15⟩, ⟨n16, n17, n18⟩, ⟨n19, n20⟩, n21⟩ := hC.ne
    have hsz1 := hsz.said n.toNat (c.well n.toNat (decide (c.clr.getD n.toNat 0 = c.m))) ("wipe", n)
    have hlog := hC1.lg
    have o1' := hC1.obj
    have a1 := hC1.la
    have a2 := hC1.st
    have a3 := hC1.tr
    have a4 := hC1.cl
    have a5 := hC1.br
    obtain ⟨lvs, hlg, hla⟩ := hlog
    have hlv : lvs.length < sizeLine := Nat.lt_of_lt_of_le (m := 900000) (by rw [hla.1]; exact hll) (by decide)
    have hla1 : LogAll H1 lvs c.log := hla
    obtain ⟨w, hw⟩ : ∃ w, c.well n.toNat (decide (c.clr.getD n.toNat 0 = c.m)) = w := ⟨_, rfl⟩
    have qT : w = true → ∀ H', Off (F.all r) H H' → ChipAt T.C_Chip H' r F { c.said n.toNat true ("wipe", n) with clr := c.clr.set n.toNat (c.clr.getD n.toNat 0 + 1), stuff := blankN c.stuff (n.toNat * c.p.toNat) c.p.toNat } → Q .non H' := fun h => by
      rw [if_pos (hw.trans h)] at q
      exact q
    have qF : w = false → ∀ H', Off (F.all r) H H' → ChipAt T.C_Chip H' r F (c.said n.toNat false ("wipe", n)) → ∀ d, H' d = some (.xd [("block", .int n)]) → E (.ref T.C_BlockFailed) (some d) H' := fun h => by
      rw [if_neg (by rw [hw, h]; decide)] at q
      exact q
    clear q
    rw [hw] at o1' a1 a2 a3 a4 a5 hsz1 hC1 ⊢
    have o1 := o1'
    unfold chipF at o1
    have hoff1 := hO1
    have hO1 := hoff1
    clear hO1
    walk_at "go"
    rename_i qt H2 hqt hs2 hn2 H3 hO3 hI3
    have f1 : H3 r = some (.ins T.C_Chip F.dx (chipF F (c.tick n.toNat w))) := by walk_at "hp"
    have f2 : H3 F.la = some (.lst c.lasts) := by walk_at "hp"
    have f3 : H3 F.st = some (.lst c.stuff) := by walk_at "hp"
    have f4 : H3 F.cl = some (.lst (c.clr.map V.int)) := by walk_at "hp"
    have f6 : H3 F.tr = some (.lst ((c.tick n.toNat w).tried.map V.int)) := by walk_at "hp"
    have f7 : H3 F.br = some (.lst ((c.tick n.toNat w).broken.map V.bl)) := by walk_at "hp"
    have hoff13 : Off (F.all r) H1 H3 := by unfold CF.all; walk_at "off"
    have hoff3 := hoff1.trans hoff13
    have hq3 : H3 qt = some (.tup [.str "wipe", .int n, .bl w]) := hO3.at hn2 (nin_of (ne_of_none hlg hqt).symm)
    have hla3 : LogAll H3 (lvs ++ [.ref qt]) (c.log ++ [(("wipe" : Str), n, w)]) := ((hla1.mono (hC1.tups hoff13))).snoc ⟨qt, rfl, hq3⟩
    have hC3 : ChipAt T.C_Chip H3 r F (c.said n.toNat w ("wipe", n)) := ⟨f1, f2, f3, f6, f4, f7, ⟨_, hI3, hla3⟩, hC.nd, hsz1⟩
    refine x_join (fun σ' H' => σ' = [some (.ref r), some (.int n), some (.bl w), none] ∧ H' = H3 ∧ w = true) (fun R hR => ?_) ?_
    · walk_at "go"
      refine x_iteB (fun h => ?_) (fun h => ?_)
      · walk_at "go"
        exact hR _ _ ⟨rfl, rfl, h⟩
      · subst h
        walk_at "go"
        refine x_moK ⟨n, rfl, h0, by omega⟩ (fun d H4 hd hs hx => ?_) T.xi_BlockFailed.o T.nx_BlockFailed_block
        exact qF rfl H4 (hoff3.trans (Off.of hs)) (hC3.mono hs) d hx
    intro σ' H' ⟨hσ, hH, hwt⟩
    subst hσ hH hwt
    have f1' := f1
    unfold chipF at f1
    have hC3' := hC3
    clear hoff13
    walk_at "go"
    rename_i HC hOC hIC
    have e1 : HC r = some (.ins T.C_Chip F.dx (chipF F (c.tick n.toNat true))) := by unfold chipF; walk_at "hp"
    have e2 : HC F.la = some (.lst c.lasts) := by walk_at "hp"
    have e3 : HC F.st = some (.lst c.stuff) := by walk_at "hp"
    have e6 : HC F.tr = some (.lst ((c.tick n.toNat true).tried.map V.int)) := by walk_at "hp"
    have e7 : HC F.br = some (.lst ((c.tick n.toNat true).broken.map V.bl)) := by walk_at "hp"
    have e8 : HC F.lg = some (.lst (lvs ++ [.ref qt])) := by walk_at "hp"
    have e4 : HC F.cl = some (.lst ((c.clr.set n.toNat (c.clr.getD n.toNat 0 + 1)).map V.int)) := by
      rw [List.map_set]
      exact hIC
    have hoff3C : Off (F.all r) H' HC := by unfold CF.all; walk_at "off"
    have z5 := hsz.stuff
    rw [show (c.tick n.toNat true).p = c.p from rfl]
    refine x_frR1 (by omega) (fun i σ H4 => ∃ (v3 : Option V), σ = [some (.ref r), some (.int n), some (.bl true), v3] ∧ Off [F.st] HC H4 ∧ H4 F.st = some (.lst (blankN c.stuff (n.toNat * c.p.toNat) i)))
      ⟨_, rfl, Off.refl, e3⟩ ?_ ?_
    · intro i σ H4 hi ⟨v3, hσ, hO4, hI4⟩
      subst hσ
      have g1 : H4 r = some (.ins T.C_Chip F.dx (chipF F (c.tick n.toNat true))) := by walk_at "hp"
      unfold chipF at g1
      rw [show (c.tick n.toNat true).p = c.p from rfl] at g1
      have hnp : n * c.p ≤ (c.b - 1) * c.p := Int.mul_le_mul_of_nonneg_right h1 (by omega)
      have hnp0 : 0 ≤ n * c.p := Int.mul_nonneg h0 (by omega)
      have hbp : c.b * c.p = (c.b - 1) * c.p + c.p := by rw [Int.sub_mul, Int.one_mul]; omega
      have hbl : ((blankN c.stuff (n.toNat * c.p.toNat) i).length : Int) = c.b * c.p := by rw [blankN_len]; exact z5
      have en : (n * c.p + (0 + (i : Int))).toNat = n.toNat * c.p.toNat + i := by
        obtain ⟨a, rfl⟩ := Int.eq_ofNat_of_zero_le h0
        obtain ⟨b, hb⟩ := Int.eq_ofNat_of_zero_le (show 0 ≤ c.p by omega)
        rw [hb]
        simp only [Int.toNat_natCast]
        rw [Int.zero_add, ← Int.natCast_mul, ← Int.natCast_add, Int.toNat_natCast]
      walk_at "go"
      rename_i H5 hO5 hI5
      refine ⟨_, rfl, hO4.trans hO5, ?_⟩
      rw [en] at hI5
      exact hI5
    · intro σ H4 ⟨v3, hσ, hO4, hI4⟩
      subst hσ
      have g1 : H4 r = some (.ins T.C_Chip F.dx (chipF F (c.tick n.toNat true))) := by walk_at "hp"
      have g2 : H4 F.la = some (.lst c.lasts) := by walk_at "hp"
      have g4 : H4 F.cl = some (.lst ((c.clr.set n.toNat (c.clr.getD n.toNat 0 + 1)).map V.int)) := by walk_at "hp"
      have g6 : H4 F.tr = some (.lst ((c.tick n.toNat true).tried.map V.int)) := by walk_at "hp"
      have g7 : H4 F.br = some (.lst ((c.tick n.toNat true).broken.map V.bl)) := by walk_at "hp"
      have g8 : H4 F.lg = some (.lst (lvs ++ [.ref qt])) := by walk_at "hp"
      have hoffC4 : Off (F.all r) HC H4 := by unfold CF.all; exact Off.sub hO4 (by intro b hb; rw [List.mem_singleton] at hb; subst hb; simp)
      have hoff34 := hoff3C.trans hoffC4
      exact qT rfl H4 (hoff3.trans hoff34) ⟨g1, g2, hI4, g6, g4, g7, ⟨_, g8, hla3.mono (hC3'.tups hoff34)⟩, hC.nd, ⟨hsz1.b, hsz1.p, hsz1.m, hsz1.lasts, by show ((blankN _ _ _).length : Int) = _; rw [blankN_len]; exact hsz.stuff, hsz1.tried, by show ((c.clr.set _ _).length : Int) = _; rw [List.length_set]; exact hsz.clr, hsz1.broken, hsz1.lsc⟩⟩
theorem x_mWipe {T : Txt K mg} {H : Hp} {Q : VK} {E : XK} {σ : L2.St} {r : Addr} {F : CF} {c : Cs} {t : TA} (hC : ChipAt T.C_Chip H r F c) (h : t σ H fun vs H2 => spWipe T (.ref r :: vs) H2 Q E) : mtK P w K mg base (L2.CX P w) 4 "wipe" E σ t Q (.ref r) H :=
  x_mtK hC.obj ⟨⟨_, _, _, T.cl_Chip, T.m_Chip_wipe, ok_Chip_wipe T, T.bd_Chip_wipe⟩⟩ rfl h
/-! ### a new chip -/
def endF (n : Int) : List (Option Int × Option Int) → List V → Option (List V)
  | [], l => some l
  | (b, g) :: r, l => if inB b 0 (n - 1) = true then if inB g 0 1000000 = true then if l.getD (b.getD 0).toNat .non = .non then endF n r (l.set (b.getD 0).toNat (.int (g.getD 0))) else none else none else none
theorem endF_cons {n : Int} {b g : Option Int} {r : List (Option Int × Option Int)} {l : List V} : endF n ((b, g) :: r) l = if inB b 0 (n - 1) = true then if inB g 0 1000000 = true then if l.getD (b.getD 0).toNat .non = .non then endF n r (l.set (b.getD 0).toNat (.int (g.getD 0))) else none else none else none := rfl
def IllsAt (H : Hp) (v : V) (is : List (Option Int × Option Int)) : Prop := (v = .non ∧ is = []) ∨ ∃ q vs, v = .ref q ∧ (H q = some (.lst vs) ∨ H q = some (.tup vs)) ∧ vs.length = is.length ∧ ∀ (i : Nat) x e, vs[i]? = some x → is[i]? = some e → ∃ t vb vg, x = .ref t ∧ H t = some (.tup [vb, vg]) ∧ Num vb e.1 ∧ Num vg e.2
def spEndu (T : Txt K mg) : Sp := fun vs H Q E => ∃ (n : Int) (vi : V) (is : List (Option Int × Option Int)), vs = [.int n, vi] ∧ 2 ≤ n ∧ n ≤ 16 ∧ IllsAt H vi is ∧
  (∀ l, endF n is (List.replicate n.toNat .non) = some l → ∀ p H', Same H H' → H p = none → H' p = some (.lst l) → Q (.ref p) H') ∧
  (endF n is (List.replicate n.toNat .non) = none → ∀ H', Same H H' → E (.ref T.C_NoChip) none H')
theorem ok_endurance (T : Txt K mg) : FO P w K mg base 3 T.a_endurance T.fd_endurance ["blocks", "ills"] (spEndu T) := by
  have sc := sc_endurance
  refine T.F_endurance.okX sc (fun vs H Q E h => ?_) (fun cdv A outer s H vs Q E hr h => ?_)
  · obtain ⟨_, _, _, rfl, _⟩ := h
    rfl
  · obtain ⟨n, vi, is, rfl, h2, h16, hi, q1, q2⟩ := h
    refine ⟨_, (pss_cons (ps_set (i := 2) sc.nd rfl (by first | exact Or.inl rfl | exact Or.inr rfl) (pe_op op_uMul (pe_lst (pa_cons pe_non pa_nil)) (pv 0)))
      (pss_cons (ps_if (pt_cmpR op_uIs (pv 1) pe_non (nomark _)) (pss_one (ps_ret (pv 2))) pss_nil)
      (pss_cons (ps_for (passes_of rfl) rfl (pi_seq (pv 1)) (pg_tup (by rfl) (pgs_cons (pg_name (i := 3) sc.nd rfl (by first | exact Or.inl rfl | exact Or.inr rfl)) (pgs_cons (pg_name (i := 4) sc.nd rfl (by first | exact Or.inl rfl | exact Or.inr rfl)) pgs_nil))) (pss_cons (ps_if (PW.pt (pw_or (pt_not (pt_truth (pe_callS (ok_is_within T) (hr.mono (by decide)) (by rfl) T.g_is_within T.k_is_within T.bd_is_within (passAt (takes_of rfl rfl rfl rfl)) (pa_cons (pv 3) (pa_cons pe_int (pa_cons (pe_op op_sub (pv 0) pe_int) pa_nil)))) (by intro _; rfl))) (pw_or1 (pt_not (pt_truth (pe_callS (ok_is_within T) (hr.mono (by decide)) (by rfl) T.g_is_within T.k_is_within T.bd_is_within (passAt (takes_of rfl rfl rfl rfl)) (pa_cons (pv 4) (pa_cons pe_int (pa_cons (pe_glob rfl T.g_MOST T.r_MOST) pa_nil)))) (by intro _; rfl)))))) (pss_one (ps_raiseK rfl (takes_of rfl rfl rfl rfl) (pmk_ownK T.xc_NoChip T.g_NoChip rfl))) pss_nil)
      (pss_cons (ps_if (pt_cmpR op_uIsNot (pe_ix ix_seq (pv 2) (pv 3) (fun _ _ => rfl)) pe_non (nomark _)) (pss_one (ps_raiseK rfl (takes_of rfl rfl rfl rfl) (pmk_ownK T.xc_NoChip T.g_NoChip rfl))) pss_nil)
      (pss_one (ps_asg (pv 4) (pg_sub (pv 2) (pv 3) set_list))))))
      (pss_one (ps_ret (pv 2)))))), ?_⟩
    walk_at "begin"
    walk_at "go"
    rename_i p0 H0 hp0 hs0 hn0 p H1 hp hs1 hn1
    have hpH : H p = none := same_none hs0 hp
    have s01 : Same H H1 := hs0.trans hs1
    rcases hi with ⟨rfl, rfl⟩ | ⟨qi, vs, rfl, hq, hlen, hall⟩
    · walk_at "if"
      refine iteT ?_
      walk_at "go"
      exact q1 _ rfl p H1 s01 hpH hn1
    · walk_at "if"
      refine iteF ?_
      walk_at "go"
      refine x_seq ?_
      walk_at "go"
      obtain ⟨kq, hkq⟩ := sqB_of (K := K) hq
      refine x_frS (hkq _ s01) (fun i σ H2 => ∃ (v3 v4 : Option V) (l : List V), σ = [some (.int n), some (.ref qi), some (.ref p), v3, v4] ∧ Same H H2 ∧ H2 p = some (.lst l) ∧ (l.length : Int) = n ∧ (∀ x ∈ l, x = .non ∨ ∃ k : Int, x = .int k) ∧ endF n is (List.replicate n.toNat .non) = endF n (is.drop i) l)
        ⟨_, _, _, rfl, s01, hn1, by rw [List.length_replicate]; omega, fun x hx => .inl (List.eq_of_mem_replicate hx), rfl⟩ (fun i σ H2 _ ⟨_, _, _, _, hs2, _⟩ => hkq _ hs2) ?_ ?_
      · intro i x σ H2 hx ⟨v3, v4, l, hσ, hs2, hp2, hll, hlx, he⟩
        subst hσ
        have hil := (List.getElem?_eq_some_iff.mp hx).1
        obtain ⟨t, vb, vg, rfl, ht, hnb, hng⟩ := hall i x _ hx (List.getElem?_eq_getElem (hlen ▸ hil))
        have hil2 : i < is.length := hlen ▸ hil
        rw [List.drop_eq_getElem_cons hil2] at he
        generalize is[i] = e at hnb hng he
        obtain ⟨eb, eg⟩ := e
        dsimp only at hnb hng
        rw [endF_cons] at he
        have ht2 := hs2 _ _ ht
        refine x_gtup2 (SqT.of ht2) ?_
        dsimp only [List.set]
        walk_at "if"
        refine x_wNum hnb ?_
        walk_at "go"
        refine x_iteB (fun hb => ?_) (fun hb => ?_)
        rotate_left
        · rw [if_neg (by rw [hb]; decide)] at he
          walk_at "go"
          exact q2 he H2 hs2
        rw [if_pos hb] at he
        obtain ⟨b, rfl, rfl, hb1, hb2⟩ := hnb.of_inB hb
        walk_at "go"
        refine x_wNum hng ?_
        walk_at "go"
        refine x_iteB (fun hg => ?_) (fun hg => ?_)
        rotate_left
        · rw [if_neg (by rw [hg]; decide)] at he
          walk_at "go"
          exact q2 he H2 hs2
        rw [if_pos hg] at he
        obtain ⟨g, rfl, rfl, hg1, hg2⟩ := hng.of_inB hg
        dsimp only [Option.getD_some] at he
        walk_at "go"
        walk_at "if"
        refine x_iteD (fun hl => ?_) (fun hl => ?_)
        rotate_left
        · rw [if_neg hl] at he
          walk_at "go"
          exact q2 he H2 hs2
        rw [if_pos hl] at he
        walk_at "go"
        rename_i H3 hO3 hI3
        refine ⟨_, _, l.set b.toNat (.int g), rfl, Off.same1 hs2 hO3 hpH, hI3, by rw [List.length_set]; exact hll, fun x hx => ?_, he⟩
        rcases List.mem_or_eq_of_mem_set hx with hx | hx
        · exact hlx x hx
        · exact .inr ⟨g, hx⟩
      · intro σ H2 ⟨v3, v4, l, hσ, hs2, hp2, hll, hlx, he⟩
        subst hσ
        rw [hlen, List.drop_length] at he
        walk_at "go"
        exact q1 l he p H2 hs2 hpH hp2
theorem x_endu {T : Txt K mg} {H : Hp} {Q : VK} {E : XK} {n : Int} {vi : V} {is : List (Option Int × Option Int)} (hi : IllsAt H vi is)
  (q1 : ∀ l, endF n is (List.replicate n.toNat .non) = some l → ∀ p H', Same H H' → H p = none → H' p = some (.lst l) → Q (.ref p) H')
  (q2 : endF n is (List.replicate n.toNat .non) = none → ∀ H', Same H H' → E (.ref T.C_NoChip) none H') (h2 : 2 ≤ n ∧ n ≤ 16) : spEndu T [.int n, vi] H Q E := ⟨n, vi, is, rfl, h2.1, h2.2, hi, q1, q2⟩
theorem endF_len {n : Int} : ∀ {is : List (Option Int × Option Int)} {l l' : List V}, endF n is l = some l' → (∀ x ∈ l, x = .non ∨ ∃ k : Int, x = .int k) → l'.length = l.length ∧ ∀ x ∈ l', x = .non ∨ ∃ k : Int, x = .int k
  | [], l, l', h, hx => by cases h; exact ⟨rfl, hx⟩
  | (b, g) :: r, l, l', h, hx => by
    unfold endF at h
    split at h
    · split at h
      · split at h
        · obtain ⟨h1, h2⟩ := endF_len h (fun x m => by
            rcases List.mem_or_eq_of_mem_set m with m | m
            · exact hx x m
            · exact .inr ⟨_, m⟩)
          rw [List.length_set] at h1
          exact ⟨h1, h2⟩
        · cases h
      · cases h
    · cases h
def Cs.new (b p m : Int) (l : List V) : Cs := { b, p, m, lasts := l, stuff := List.replicate (b * p).toNat .non, tried := List.replicate b.toNat 0, clr := List.replicate b.toNat 0, broken := List.replicate b.toNat false, left := none, log := [] }
def chipGood (b p m : Option Int) : Bool := inB b 2 16 && inB p 1 16 && inB m 0 1000000
def spCInit (T : Txt K mg) : Sp := fun vs H Q E => ∃ (r dx : Addr) (vb vp vm vi : V) (b p m : Option Int) (is : List (Option Int × Option Int)), vs = [.ref r, vb, vp, vm, vi] ∧ H r = some (.ins T.C_Chip dx []) ∧ Num vb b ∧ Num vp p ∧ Num vm m ∧ IllsAt H vi is ∧
  (chipGood b p m = true → ∀ l, endF (b.getD 0) is (List.replicate (b.getD 0).toNat .non) = some l → ∀ F H', Off [r] H H' → (∀ a ∈ F.all r, a ≠ r → H a = none) → ChipAt T.C_Chip H' r F (Cs.new (b.getD 0) (p.getD 0) (m.getD 0) l) → Q .non H') ∧
  ((chipGood b p m = false ∨ endF (b.getD 0) is (List.replicate (b.getD 0).toNat .non) = none) → ∀ H', Off [r] H H' → E (.ref T.C_NoChip) none H')
theorem ok_Chip_init (T : Txt K mg) : FO P w K mg base 4 T.a_Chip_init T.fd_Chip_init ["self", "blocks", "pages", "most", "ills"] (spCInit T) := by
  have sc := sc_Chip_init
  refine T.F_Chip_init.okX sc (fun vs H Q E h => ?_) (fun cdv A outer s H vs Q E hr h => ?_)
  · obtain ⟨_, _, _, _, _, _, _, _, _, _, rfl, _⟩ := h
    rfl
  · obtain ⟨r, dx, vb, vp, vm, vi, b, p, m, is, rfl, hR, nb, np, nm, hi, q1, q2⟩ := h
    refine ⟨_, (pss_cons (ps_if (PW.pt (pw_or (pt_not (pt_truth (pe_callS (ok_is_within T) (hr.mono (by decide)) (by rfl) T.g_is_within T.k_is_within T.bd_is_within (passAt (takes_of rfl rfl rfl rfl)) (pa_cons (pv 1) (pa_cons pe_int (pa_cons (pe_glob rfl T.g_MANY T.r_MANY) pa_nil)))) (by intro _; rfl))) (pw_or (pt_not (pt_truth (pe_callS (ok_is_within T) (hr.mono (by decide)) (by rfl) T.g_is_within T.k_is_within T.bd_is_within (passAt (takes_of rfl rfl rfl rfl)) (pa_cons (pv 2) (pa_cons pe_int (pa_cons (pe_glob rfl T.g_MANY T.r_MANY) pa_nil)))) (by intro _; rfl))) (pw_or1 (pt_not (pt_truth (pe_callS (ok_is_within T) (hr.mono (by decide)) (by rfl) T.g_is_within T.k_is_within T.bd_is_within (passAt (takes_of rfl rfl rfl rfl)) (pa_cons (pv 3) (pa_cons pe_int (pa_cons (pe_glob rfl T.g_MOST T.r_MOST) pa_nil)))) (by intro _; rfl))))))) (pss_one (ps_raiseK rfl (takes_of rfl rfl rfl rfl) (pmk_ownK T.xc_NoChip T.g_NoChip rfl))) pss_nil)
      (pss_cons (ps_fld (pv 0) (pv 1) rfl)
      (pss_cons (ps_fld (pv 0) (pv 2) rfl)
      (pss_cons (ps_fld (pv 0) (pv 3) rfl)
      (pss_cons (ps_fld (pv 0) (pe_callS (ok_endurance T) (hr.mono (by decide)) (by rfl) T.g_endurance T.k_endurance T.bd_endurance (passAt (takes_of rfl rfl rfl rfl)) (pa_cons (pv 1) (pa_cons (pv 4) pa_nil))) rfl)
      (pss_cons (ps_fld (pv 0) (pe_op op_uMul (pe_lst (pa_cons pe_non pa_nil)) (pe_op op_uMul (pv 1) (pv 2))) rfl)
      (pss_cons (ps_fld (pv 0) (pe_op op_uMul (pe_lst (pa_cons pe_int pa_nil)) (pv 1)) rfl)
      (pss_cons (ps_fld (pv 0) (pe_op op_uMul (pe_lst (pa_cons pe_int pa_nil)) (pv 1)) rfl)
      (pss_cons (ps_fld (pv 0) (pe_op op_uMul (pe_lst (pa_cons pe_bl pa_nil)) (pv 1)) rfl)
      (pss_cons (ps_fld (pv 0) pe_non rfl)
      (pss_one (ps_fld (pv 0) (pe_lst pa_nil) rfl)))))))))))), ?_⟩
    walk_at "begin"
    walk_at "if"
    refine x_wNum nb ?_
    walk_at "go"
    refine x_iteB (fun hb => ?_) (fun hb => ?_)
    rotate_left
    · walk_at "go"
      exact q2 (.inl (by unfold chipGood; rw [hb]; rfl)) H Off.refl
    obtain ⟨b, rfl, rfl, hb1, hb2⟩ := nb.of_inB hb
    walk_at "go"
    refine x_wNum np ?_
    walk_at "go"
    refine x_iteB (fun hp => ?_) (fun hp => ?_)
    rotate_left
    · walk_at "go"
      exact q2 (.inl (by unfold chipGood; rw [hb, hp]; rfl)) H Off.refl
    obtain ⟨p, rfl, rfl, hp1, hp2⟩ := np.of_inB hp
    walk_at "go"
    refine x_wNum nm ?_
    walk_at "go"
    refine x_iteB (fun hm => ?_) (fun hm => ?_)
    rotate_left
    · walk_at "go"
      exact q2 (.inl (by unfold chipGood; rw [hb, hp, hm]; rfl)) H Off.refl
    obtain ⟨m, rfl, rfl, hm1, hm2⟩ := nm.of_inB hm
    have hgood : chipGood (some b) (some p) (some m) = true := by unfold chipGood; rw [hb, hp, hm]; rfl
    dsimp only [Option.getD_some] at q1 q2
    walk_at "go"
    rename_i H1 hO1 hI1 H2 hO2 hI2 H3 hO3 hI3
    have hO : Off [r] H H3 := (hO1.trans hO2).trans hO3
    have hi3 : IllsAt H3 vi is := by
      rcases hi with h | ⟨q, vs, e, hq, hl, hall⟩
      · exact .inl h
      · refine .inr ⟨q, vs, e, hq.imp (fun z => hO.lst hR z) (fun z => hO.tup hR z), hl, fun i x y h1 h2 => ?_⟩
        obtain ⟨t, vb, vg, e, ht, r⟩ := hall i x y h1 h2
        exact ⟨t, vb, vg, e, hO.tup hR ht, r⟩
    refine x_endu hi3 (fun l hl la H4 hs4 hla hlal => ?_) (fun hl H4 hs4 => q2 (.inr hl) H4 (hO.trans (Off.of hs4))) ⟨hb1, hb2⟩
    have hbp0 : 0 ≤ b * p := Int.mul_nonneg (by omega) (by omega)
    have hbp : b * p ≤ 16 * 16 := Int.mul_le_mul hb2 hp2 (by omega) (by decide)
    clear hO
    walk_at "go"
    rename_i H5 hO5 hI5 x1 G1 hx1 sx1 nx1 x2 G2 hx2 sx2 nx2 H6 hO6 hI6 y1 G3 hy1 sy1 ny1 y2 G4 hy2 sy2 ny2 H7 hO7 hI7 z1 G5 hz1 sz1 nz1 z2 G6 hz2 sz2 nz2 H8 hO8 hI8 w1 G7 hw1 sw1 nw1 w2 G8 hw2 sw2 nw2 H9 hO9 hI9 H10 hO10 hI10 u1 G9 hu1 su1 nu1 H11 hO11 hI11
    have d1 : r ≠ la := by walk_at "nn"
    have d2 : r ≠ x2 := by walk_at "nn"
    have d3 : la ≠ x2 := by walk_at "nn"
    have d4 : r ≠ y2 := by walk_at "nn"
    have d5 : la ≠ y2 := by walk_at "nn"
    have d6 : x2 ≠ y2 := by walk_at "nn"
    have d7 : r ≠ z2 := by walk_at "nn"
    have d8 : la ≠ z2 := by walk_at "nn"
    have d9 : x2 ≠ z2 := by walk_at "nn"
    have d10 : y2 ≠ z2 := by walk_at "nn"
    have d11 : r ≠ w2 := by walk_at "nn"
    have d12 : la ≠ w2 := by walk_at "nn"
    have d13 : x2 ≠ w2 := by walk_at "nn"
    have d14 : y2 ≠ w2 := by walk_at "nn"
    have d15 : z2 ≠ w2 := by walk_at "nn"
    have d16 : r ≠ u1 := by walk_at "nn"
    have d17 : la ≠ u1 := by walk_at "nn"
    have d18 : x2 ≠ u1 := by walk_at "nn"
    have d19 : y2 ≠ u1 := by walk_at "nn"
    have d20 : z2 ≠ u1 := by walk_at "nn"
    have d21 : w2 ≠ u1 := by walk_at "nn"
    have f1 : H11 la = some (.lst l) := by walk_at "hp"
    have f2 : H11 x2 = some (.lst (List.replicate (b * p).toNat .non)) := by walk_at "hp"
    have f3 : H11 y2 = some (.lst (List.replicate b.toNat (.int 0))) := by walk_at "hp"
    have f4 : H11 z2 = some (.lst (List.replicate b.toNat (.int 0))) := by walk_at "hp"
    have f5 : H11 w2 = some (.lst (List.replicate b.toNat (.bl false))) := by walk_at "hp"
    have f6 : H11 u1 = some (.lst []) := by walk_at "hp"
    have k1 : H la = none := by
      refine off_none (H1 := H3) ?_ hla d1.symm
      walk_at "off"
    have k2 : H x2 = none := by
      refine off_none (H1 := G1) ?_ hx2 d2.symm
      walk_at "off"
    have k3 : H y2 = none := by
      refine off_none (H1 := G3) ?_ hy2 d4.symm
      walk_at "off"
    have k4 : H z2 = none := by
      refine off_none (H1 := G5) ?_ hz2 d7.symm
      walk_at "off"
    have k5 : H w2 = none := by
      refine off_none (H1 := G7) ?_ hw2 d11.symm
      walk_at "off"
    have k6 : H u1 = none := by
      refine off_none (H1 := H10) ?_ hu1 d16.symm
      walk_at "off"
    have hoff : Off [r] H H11 := by walk_at "off"
    obtain ⟨e1, e2⟩ := endF_len hl (fun x hx => .inl (List.eq_of_mem_replicate hx))
    rw [List.length_replicate] at e1
    refine q1 hgood l hl ⟨dx, la, x2, y2, z2, w2, u1⟩ H11 hoff (fun a ha hne => ?_) ⟨hI11, f1, f2, ?_, ?_, ?_, ⟨[], f6, rfl, fun i v e h => by simp at h⟩, ?_, ⟨⟨hb1, hb2⟩, ⟨hp1, hp2⟩, ⟨hm1, hm2⟩, ?_, ?_, ?_, ?_, ?_, e2⟩⟩
    · unfold CF.all at ha
      simp only [List.mem_cons, List.not_mem_nil, or_false] at ha
      rcases ha with rfl | rfl | rfl | rfl | rfl | rfl | rfl
      · exact absurd rfl hne
      · exact k1
      · exact k2
      · exact k3
      · exact k4
      · exact k5
      · exact k6
    · show H11 y2 = some (.lst ((List.replicate _ _).map V.int))
      rw [List.map_replicate]
      exact f3
    · show H11 z2 = some (.lst ((List.replicate _ _).map V.int))
      rw [List.map_replicate]
      exact f4
    · show H11 w2 = some (.lst ((List.replicate _ _).map V.bl))
      rw [List.map_replicate]
      exact f5
    · show [r, la, x2, y2, z2, w2, u1].Nodup
      simp only [List.nodup_cons, List.mem_cons, List.not_mem_nil, or_false, not_or, not_false_eq_true, List.nodup_nil, and_true]
      exact ⟨⟨d1, d2, d4, d7, d11, d16⟩, ⟨d3, d5, d8, d12, d17⟩, ⟨d6, d9, d13, d18⟩, ⟨d10, d14, d19⟩, ⟨d15, d20⟩, d21⟩
    · show (l.length : Int) = b
      omega
    · show ((List.replicate _ _).length : Int) = b * p
      rw [List.length_replicate]
      omega
    · show ((List.replicate _ _).length : Int) = b
      rw [List.length_replicate]
      omega
    · show ((List.replicate _ _).length : Int) = b
      rw [List.length_replicate]
      omega
    · show ((List.replicate _ _).length : Int) = b
      rw [List.length_replicate]
      omega
theorem ChipAt.there {C : Addr} {H : Hp} {r : Addr} {F : CF} {c : Cs} (h : ChipAt C H r F c) : ∀ a ∈ F.all r, ∃ o, H a = some o ∧ ∀ xs, o ≠ .tup xs := fun a ha => by
  obtain ⟨vs, e7, _⟩ := h.lg
  unfold CF.all at ha
  simp only [List.mem_cons, List.not_mem_nil, or_false] at ha
  rcases ha with rfl | rfl | rfl | rfl | rfl | rfl | rfl
  · exact ⟨_, h.obj, fun _ z => by cases z⟩
  · exact ⟨_, h.la, fun _ z => by cases z⟩
  · exact ⟨_, h.st, fun _ z => by cases z⟩
  · exact ⟨_, h.tr, fun _ z => by cases z⟩
  · exact ⟨_, h.cl, fun _ z => by cases z⟩
  · exact ⟨_, h.br, fun _ z => by cases z⟩
  · exact ⟨_, e7, fun _ z => by cases z⟩
theorem ChipAt.fresh {C : Addr} {H : Hp} {r : Addr} {F : CF} {c : Cs} (h : ChipAt C H r F c) {q : Addr} (hq : H q = none) : q ∉ F.all r := fun m => by
  obtain ⟨o, e, _⟩ := h.there q m
  rw [hq] at e; cases e
theorem tups_of {S : List Addr} {H H' : Hp} (h : ∀ a ∈ S, ∃ o, H a = some o ∧ ∀ xs, o ≠ .tup xs) (s : Off S H H') : TupS H H' := fun b ys e => s b _ (fun m => by
  obtain ⟨o, e2, n⟩ := h b m
  rw [e] at e2
  cases e2
  exact n _ rfl) e
theorem x_cinit {T : Txt K mg} {H H1 : Hp} {Q : VK} {E : XK} {x dx : Addr} {b p : Int} (hB : 2 ≤ b ∧ b ≤ 16) (hP : 1 ≤ p ∧ p ≤ 16) (hx : H x = none) (hs : Same H H1) (hn : H1 x = some (.ins T.C_Chip dx []))
    (q : ∀ F H', Same H H' → (∀ a ∈ F.all x, H a = none) → ChipAt T.C_Chip H' x F (Cs.new b p 1000000 (List.replicate b.toNat .non)) → Q .non H') : spCInit T [.ref x, .int b, .int p, .int 1000000, .non] H1 Q E := by
  refine ⟨x, dx, _, _, _, _, some b, some p, some 1000000, [], rfl, hn, .int b, .int p, .int 1000000, .inl ⟨rfl, rfl⟩, fun hg l hl F H' hO hF hC => ?_, fun hno => ?_⟩
  · cases hl
    refine q F H' (Off.same1 hs hO hx) (fun a ha => ?_) hC
    by_cases e : a = x
    · rw [e]; exact hx
    · exact same_none hs (hF a ha e)
  · exfalso
    rcases hno with hno | hno
    · unfold chipGood inB at hno
      have e1 : decide (2 ≤ b ∧ b ≤ 16) = true := decide_eq_true hB
      have e2 : decide (1 ≤ p ∧ p ≤ 16) = true := decide_eq_true hP
      dsimp only at hno
      rw [e1, e2] at hno
      cases hno
    · cases hno
/-! ### reading, and what is told of a block -/
def spRead (T : Txt K mg) : Sp := fun vs H Q E => ∃ (r : Addr) (F : CF) (c : Cs) (vp : V) (o : Option Int), vs = [.ref r, vp] ∧ ChipAt T.C_Chip H r F c ∧ Num vp o ∧ (inB o 0 (c.b * c.p - 1) = false → E (.ref T.C_NoPlace) none H) ∧
  (inB o 0 (c.b * c.p - 1) = true → c.dark = true → E (.ref T.C_PowerGone) none H) ∧ (inB o 0 (c.b * c.p - 1) = true → c.dark = false → Q (c.stuff.getD (o.getD 0).toNat .non) H)
theorem ok_Chip_read (T : Txt K mg) : FO P w K mg base 4 T.a_Chip_read T.fd_Chip_read ["self", "page"] (spRead T) := by
  have sc := sc_Chip_read
  refine T.F_Chip_read.okX sc (fun vs H Q E h => ?_) (fun cdv A outer s H vs Q E hr h => ?_)
  · obtain ⟨_, _, _, _, _, rfl, _⟩ := h
    rfl
  · obtain ⟨r, F, c, vp, o, rfl, hC, hn, q1, q2, q3⟩ := h
    refine ⟨_, (pss_cons (ps_expr (pe_methD (k := 3) (pv 0) (hr.mono (by decide)) (passAt (takes_of rfl rfl rfl rfl)) (pa_cons (pv 1) pa_nil)))
      (pss_cons (ps_expr (pe_methD0 (k := 2) (pv 0) (hr.mono (by decide)) (passAt (takes_of rfl rfl rfl rfl))))
      (pss_one (ps_ret (pe_ix ix_seq (pe_fld (pv 0) rfl) (pv 1) (fun _ _ => rfl)))))), ?_⟩
    walk_at "begin"
    walk_at "go"
    refine x_mPage hC ?_
    walk_at "go"
    refine x_page hC hn (fun hin => ?_) (fun hin => q1 hin)
    have q2' := q2 hin
    have q3' := q3 hin
    obtain ⟨n, rfl, rfl, h0, h1⟩ := hn.of_inB hin
    walk_at "go"
    refine x_mPower hC (fun hd => ?_) (fun hd => q2' hd)
    have ho := hC.obj
    unfold chipF at ho
    have hst := hC.st
    have z4 := hC.sz.stuff
    walk_at "go"
    exact q3' hd
theorem x_mRead {T : Txt K mg} {H : Hp} {Q : VK} {E : XK} {σ : L2.St} {r : Addr} {F : CF} {c : Cs} {t : TA} (hC : ChipAt T.C_Chip H r F c) (h : t σ H fun vs H2 => spRead T (.ref r :: vs) H2 Q E) : mtK P w K mg base (L2.CX P w) 4 "read" E σ t Q (.ref r) H :=
  x_mtK hC.obj ⟨⟨_, _, _, T.cl_Chip, T.m_Chip_read, ok_Chip_read T, T.bd_Chip_read⟩⟩ rfl h
def spCleared (T : Txt K mg) : Sp := fun vs H Q E => ∃ (r : Addr) (F : CF) (c : Cs) (vp : V) (o : Option Int), vs = [.ref r, vp] ∧ ChipAt T.C_Chip H r F c ∧ Num vp o ∧ (inB o 0 (c.b - 1) = false → E (.ref T.C_NoPlace) none H) ∧
  (inB o 0 (c.b - 1) = true → Q (.int (c.clr.getD (o.getD 0).toNat 0)) H)
theorem ok_Chip_cleared (T : Txt K mg) : FO P w K mg base 4 T.a_Chip_cleared T.fd_Chip_cleared ["self", "block"] (spCleared T) := by
  have sc := sc_Chip_cleared
  refine T.F_Chip_cleared.okX sc (fun vs H Q E h => ?_) (fun cdv A outer s H vs Q E hr h => ?_)
  · obtain ⟨_, _, _, _, _, rfl, _⟩ := h
    rfl
  · obtain ⟨r, F, c, vp, o, rfl, hC, hn, q1, q3⟩ := h
    refine ⟨_, (pss_cons (ps_expr (pe_methD (k := 3) (pv 0) (hr.mono (by decide)) (passAt (takes_of rfl rfl rfl rfl)) (pa_cons (pv 1) pa_nil)))
      (pss_one (ps_ret (pe_ix ix_seq (pe_fld (pv 0) rfl) (pv 1) (fun _ _ => rfl))))), ?_⟩
    walk_at "begin"
    walk_at "go"
    refine x_mBlock hC ?_
    walk_at "go"
    refine x_block hC hn (fun hin => ?_) (fun hin => q1 hin)
    have q3' := q3 hin
    obtain ⟨n, rfl, rfl, h0, h1⟩ := hn.of_inB hin
    have ho := hC.obj
    unfold chipF at ho
    have hcl := hC.cl
    have z4 := hC.sz.clr
    walk_at "go"
    exact q3'
theorem x_mCleared {T : Txt K mg} {H : Hp} {Q : VK} {E : XK} {σ : L2.St} {r : Addr} {F : CF} {c : Cs} {t : TA} (hC : ChipAt T.C_Chip H r F c) (h : t σ H fun vs H2 => spCleared T (.ref r :: vs) H2 Q E) : mtK P w K mg base (L2.CX P w) 4 "cleared" E σ t Q (.ref r) H :=
  x_mtK hC.obj ⟨⟨_, _, _, T.cl_Chip, T.m_Chip_cleared, ok_Chip_cleared T, T.bd_Chip_cleared⟩⟩ rfl h
theorem x_cleared {T : Txt K mg} {H : Hp} {Q : VK} {E : XK} {r : Addr} {F : CF} {c : Cs} {n : Int} (hC : ChipAt T.C_Chip H r F c) (q : Q (.int (c.clr.getD n.toNat 0)) H) (h : 0 ≤ n ∧ n < c.b) : spCleared T [.ref r, .int n] H Q E :=
  ⟨r, F, c, _, some n, rfl, hC, .int n, (fun z => by simp [inB] at z; omega), fun _ => q⟩
def spFailed (T : Txt K mg) : Sp := fun vs H Q E => ∃ (r : Addr) (F : CF) (c : Cs) (vp : V) (o : Option Int), vs = [.ref r, vp] ∧ ChipAt T.C_Chip H r F c ∧ Num vp o ∧ (inB o 0 (c.b - 1) = false → E (.ref T.C_NoPlace) none H) ∧
  (inB o 0 (c.b - 1) = true → Q (.bl (c.broken.getD (o.getD 0).toNat false)) H)
theorem ok_Chip_failed (T : Txt K mg) : FO P w K mg base 4 T.a_Chip_failed T.fd_Chip_failed ["self", "block"] (spFailed T) := by
  have sc := sc_Chip_failed
  refine T.F_Chip_failed.okX sc (fun vs H Q E h => ?_) (fun cdv A outer s H vs Q E hr h => ?_)
  · obtain ⟨_, _, _, _, _, rfl, _⟩ := h
    rfl
  · obtain ⟨r, F, c, vp, o, rfl, hC, hn, q1, q3⟩ := h
    refine ⟨_, (pss_cons (ps_expr (pe_methD (k := 3) (pv 0) (hr.mono (by decide)) (passAt (takes_of rfl rfl rfl rfl)) (pa_cons (pv 1) pa_nil)))
      (pss_one (ps_ret (pe_ix ix_seq (pe_fld (pv 0) rfl) (pv 1) (fun _ _ => rfl))))), ?_⟩
    walk_at "begin"
    walk_at "go"
    refine x_mBlock hC ?_
    walk_at "go"
    refine x_block hC hn (fun hin => ?_) (fun hin => q1 hin)
    have q3' := q3 hin
    obtain ⟨n, rfl, rfl, h0, h1⟩ := hn.of_inB hin
    have ho := hC.obj
    unfold chipF at ho
    have hcl := hC.br
    have z4 := hC.sz.broken
    walk_at "go"
    exact q3'
theorem x_mFailed {T : Txt K mg} {H : Hp} {Q : VK} {E : XK} {σ : L2.St} {r : Addr} {F : CF} {c : Cs} {t : TA} (hC : ChipAt T.C_Chip H r F c) (h : t σ H fun vs H2 => spFailed T (.ref r :: vs) H2 Q E) : mtK P w K mg base (L2.CX P w) 4 "failed" E σ t Q (.ref r) H :=
  x_mtK hC.obj ⟨⟨_, _, _, T.cl_Chip, T.m_Chip_failed, ok_Chip_failed T, T.bd_Chip_failed⟩⟩ rfl h
theorem x_failed {T : Txt K mg} {H : Hp} {Q : VK} {E : XK} {r : Addr} {F : CF} {c : Cs} {n : Int} (hC : ChipAt T.C_Chip H r F c) (q : Q (.bl (c.broken.getD n.toNat false)) H) (h : 0 ≤ n ∧ n < c.b) : spFailed T [.ref r, .int n] H Q E :=
  ⟨r, F, c, _, some n, rfl, hC, .int n, (fun z => by simp [inB] at z; omega), fun _ => q⟩
def spDeeds (T : Txt K mg) : Sp := fun vs H Q _ => ∃ (r : Addr) (F : CF) (c : Cs), vs = [.ref r] ∧ ChipAt T.C_Chip H r F c ∧ ∀ p vs' H', Same H H' → H p = none → H' p = some (.lst vs') → LogAll H' vs' c.log → Q (.ref p) H'
theorem ok_Chip_deeds (T : Txt K mg) : FO P w K mg base 1 T.a_Chip_deeds T.fd_Chip_deeds ["self"] (spDeeds T) := by
  have sc := sc_Chip_deeds
  refine T.F_Chip_deeds.okX sc (fun vs H Q E h => ?_) (fun cdv A outer s H vs Q E hr h => ?_)
  · obtain ⟨_, _, _, rfl, _⟩ := h
    rfl
  · obtain ⟨r, F, c, rfl, hC, q⟩ := h
    refine ⟨_, (pss_one (ps_ret (pe_callTy ct_list (by rfl) T.b_list bt_list (pa_cons (pe_fld (pv 0) rfl) pa_nil)))), ?_⟩
    have ho := hC.obj
    unfold chipF at ho
    obtain ⟨lvs, hlg, hla⟩ := hC.lg
    walk_at "begin"
    walk_at "go"
    rename_i p H1 hp hs hn
    exact q p lvs H1 hs hp hn (hla.mono (TupS.of hs))
theorem x_mDeeds {T : Txt K mg} {H : Hp} {Q : VK} {E : XK} {σ : L2.St} {r : Addr} {F : CF} {c : Cs} (hC : ChipAt T.C_Chip H r F c) (h : spDeeds T [.ref r] H Q E) : mtK P w K mg base (L2.CX P w) 1 "deeds" E σ tNil Q (.ref r) H :=
  x_mtK hC.obj ⟨⟨_, _, _, T.cl_Chip, T.m_Chip_deeds, ok_Chip_deeds T, T.bd_Chip_deeds⟩⟩ rfl h
/-! ### what was done, as data -/
def logD (es : List (Str × Int × Bool)) : PyData := .list (es.map fun e => .tuple [.str e.1, .int e.2.1, .bool e.2.2])
def LogW (es : List (Str × Int × Bool)) : Prop := ∀ e ∈ es, e.1 = "put" ∨ e.1 = "wipe"
theorem LogW.snoc {es : List (Str × Int × Bool)} {e : Str × Int × Bool} (h : LogW es) (he : e.1 = "put" ∨ e.1 = "wipe") : LogW (es ++ [e]) := fun x hx => by
  rcases List.mem_append.mp hx with hx | hx
  · exact h x hx
  · rw [List.mem_singleton.mp hx]; exact he
theorem LogAll.dpAll {H : Hp} {vs : List V} {es : List (Str × Int × Bool)} (h : LogAll H vs es) : DpAll K H vs (es.map fun e => .tuple [.str e.1, .int e.2.1, .bool e.2.2]) := by
  refine dpAll_of (by rw [List.length_map]; exact h.1) fun i v d h1 h2 => ?_
  rw [List.getElem?_map] at h2
  cases e : es[i]? with
  | none => rw [e] at h2; simp at h2
  | some t =>
    rw [e] at h2
    simp at h2
    subst h2
    obtain ⟨a, rfl, ha⟩ := h.2 i v t h1 e
    exact .tup (SqT.of ha) (.cons (.str _) (.cons (.int _) (.cons (.bl _) .nil)))
theorem LogAll.dp {H : Hp} {p : Addr} {vs : List V} {es : List (Str × Int × Bool)} (h : LogAll H vs es) (hp : H p = some (.lst vs)) : Dp K H (.ref p) (logD es) := .lst (SqL.of hp) h.dpAll
/-! ### marks -/
def mk (st nm : Int) : Int := st * 128 + nm
theorem mk_or {st nm : Int} (h : 0 ≤ st) (h0 : 0 ≤ nm) (h1 : nm < 128) : Builtin.bitOr (st * 2 ^ (7 : Int).toNat) nm = mk st nm := by
  have e := Bits.bitOr_join' (a := nm) (b := st) (k := 7) h0 (by omega) h
  rw [show (7 : Int).toNat = 7 from rfl, e]
  unfold mk
  omega
def spMark : Sp := fun vs H Q _ => ∃ st nm : Int, vs = [.int st, .int nm] ∧ (0 ≤ st ∧ st < 10 ^ 45 ∧ 0 ≤ nm ∧ nm < 128) ∧ Q (.int (mk st nm)) H
theorem x_mark {H : Hp} {Q : VK} {E : XK} {st nm : Int} (q : Q (.int (mk st nm)) H) (h : 0 ≤ st ∧ st < 10 ^ 45 ∧ 0 ≤ nm ∧ nm < 128) : spMark [.int st, .int nm] H Q E := ⟨st, nm, rfl, h, q⟩
local macro_rules | `(tactic| walk_at "u") => `(tactic| ((with_reducible refine x_mark ?_ ?hs); (try (case hs => walk_at "side"))))
theorem ok_mark_of (T : Txt K mg) : FO P w K mg base 1 T.a_mark_of T.fd_mark_of ["stamp", "name"] spMark := by
  have sc := sc_mark_of
  refine T.F_mark_of.okX sc (fun vs H Q E h => ?_) (fun cdv A outer s H vs Q E hr h => ?_)
  · obtain ⟨_, _, rfl, _⟩ := h
    rfl
  · obtain ⟨st, nm, rfl, ⟨h1, h2, h3, h4⟩, q⟩ := h
    have hc : CShl st 7 := shl_ok (n := 200) (by
      have : (2:Nat) ^ 200 = 1606938044258990275541962092341162602522202993782792835301376 := by decide
      omega) (by decide)
    refine ⟨_, (pss_one (ps_ret (pe_op op_or (pe_op op_uShl (pv 0) pe_int) (pv 1)))), ?_⟩
    walk_at "begin"
    walk_at "go"
    rw [mk_or h1 h3 h4]
    exact q
/-! ### sheets as bits: the plain law -/
def bitsN (ms : List Nat) : Nat := ms.foldl (fun b s => b ||| 2 ^ s) 0
theorem or_step {b : Nat} {n : Int} : Builtin.bitOr (b : Int) (1 * 2 ^ n.toNat) = ((b ||| 2 ^ n.toNat : Nat) : Int) := by
  have e : (1 : Int) * 2 ^ n.toNat = ((2 ^ n.toNat : Nat) : Int) := by rw [Int.one_mul, Int.natCast_pow]; rfl
  rw [e, bitOr_nn (Int.natCast_nonneg _) (Int.natCast_nonneg _), Int.toNat_natCast, Int.toNat_natCast]
/-! ### bits_of -/
local macro_rules | `(tactic| walk_at "u") => `(tactic| ((with_reducible refine' x_appO ?ho ?_ ?hl); (case ho => walk_at "hp"); (try (case hl => walk_at "side")); intro H1 hO hI; (try dsimp only)))
def spBits (K : PySem.W.Frag) : Sp := fun vs H Q _ => ∃ (a : Addr) (ns : List Int), vs = [.ref a] ∧ SqL K H a (ns.map V.int) ∧ (∀ n ∈ ns, 0 ≤ n ∧ n < 64) ∧ Q (.int (bitsN (ns.map Int.toNat) : Nat)) H
theorem ok_bits_of (T : Txt K mg) : FO P w K mg base 1 T.a_bits_of T.fd_bits_of ["sheets"] (spBits K) := by
  have sc := sc_bits_of
  refine T.F_bits_of.okX sc (fun vs H Q E h => ?_) (fun cdv A outer s H vs Q E hr h => ?_)
  · obtain ⟨_, _, rfl, _⟩ := h
    rfl
  · obtain ⟨a, ns, rfl, hS, hns, q⟩ := h
    refine ⟨_, (pss_cons (ps_set (i := 1) sc.nd rfl (by first | exact Or.inl rfl | exact Or.inr rfl) pe_int)
      (pss_cons (ps_for (passes_of rfl) rfl (pi_list (pv 0)) (pg_name (i := 2) sc.nd rfl (by first | exact Or.inl rfl | exact Or.inr rfl)) (pss_one (ps_set (i := 1) sc.nd rfl (by first | exact Or.inl rfl | exact Or.inr rfl) (pe_op op_or (pv 1) (pe_op op_uShl pe_int (pv 2))))))
      (pss_one (ps_ret (pv 1))))), ?_⟩
    walk_at "begin"
    walk_at "go"
    refine x_seq ?_
    walk_at "go"
    refine x_frL hS (fun i σ H' => H' = H ∧ ∃ v2, σ = [some (.ref a), some (.int (bitsN ((ns.take i).map Int.toNat) : Nat)), v2]) ⟨rfl, _, rfl⟩ (fun i σ H' _ h => by rw [h.1]; exact hS) ?_ ?_
    · intro i x σ H' hx ⟨hH, v2, hσ⟩
      subst hσ hH
      rw [List.getElem?_map] at hx
      cases he : ns[i]? with
      | none => rw [he] at hx; simp at hx
      | some n =>
        rw [he] at hx
        simp at hx
        subst hx
        have hn := hns n (List.mem_of_getElem? he)
        have ek : ns.take (i + 1) = ns.take i ++ [n] := by rw [List.take_add_one, he]; rfl
        rw [ek, List.map_append]
        have eb : bitsN ((ns.take i).map Int.toNat ++ [n].map Int.toNat) = bitsN ((ns.take i).map Int.toNat) ||| 2 ^ n.toNat := by
          unfold bitsN
          rw [List.foldl_append]
          rfl
        rw [eb]
        generalize bitsN ((ns.take i).map Int.toNat) = b
        have hcs : CShl 1 n := ⟨hn.1, by have e1 : (Builtin.Int.intBits 1 : Int) = 1 := by decide +kernel
                                         rw [e1]; omega⟩
        walk_at "go"
        rw [or_step]
        exact ⟨rfl, _, rfl⟩
    · intro σ H' ⟨hH, v2, hσ⟩
      subst hσ hH
      rw [List.length_map, List.take_length]
      walk_at "go"
      exact q
/-! ### dicts from numbers to numbers -/
def kvI (ps : List (Int × Int)) : List (L2.Key × V) := ps.map fun e => (.inl e.1, .int e.2)
def getI (ps : List (Int × Int)) (n : Int) : Option Int := (ps.find? fun e => decide (e.1 = n)).map (·.2)
def putI (ps : List (Int × Int)) (n x : Int) : List (Int × Int) := if (ps.any fun e => decide (e.1 = n)) = true then ps.map (fun e => if e.1 = n then (e.1, x) else e) else ps ++ [(n, x)]
def dropI (ps : List (Int × Int)) (n : Int) : List (Int × Int) := ps.filter fun e => decide (e.1 ≠ n)
theorem keyI {m n : Int} : decide ((Sum.inl m : L2.Key) = .inl n) = decide (m = n) := by
  rw [decide_eq_decide]
  exact ⟨fun z => by injection z, fun z => by rw [z]⟩
theorem valV_I {n : Int} : ∀ {ps : List (Int × Int)}, valV (kvI ps) (.inl n) = (getI ps n).map V.int
  | [] => rfl
  | e :: ps => by
    by_cases h : e.1 = n
    · have e1 : valV (kvI (e :: ps)) (.inl n) = some (.int e.2) := valV_pos (p := ((Sum.inl e.1 : L2.Key), V.int e.2)) (by rw [h])
      rw [e1]
      unfold getI
      rw [List.find?_cons, decide_eq_true h]
      rfl
    · have e1 : valV (kvI (e :: ps)) (.inl n) = valV (kvI ps) (.inl n) := valV_neg (p := ((Sum.inl e.1 : L2.Key), V.int e.2)) (fun z => h (Sum.inl.inj z))
      rw [e1, valV_I]
      unfold getI
      rw [List.find?_cons, decide_eq_false h]
theorem putK_I {ps : List (Int × Int)} {n x : Int} : putK (kvI ps) (.inl n) (.int x) = kvI (putI ps n x) := by
  unfold putK putI
  have e : ((kvI ps).any fun kv => decide (kv.1 = .inl n)) = ps.any fun e => decide (e.1 = n) := by
    unfold kvI
    rw [List.any_map]
    exact congrArg (ps.any ·) (funext fun e => keyI)
  rw [e]
  split
  · unfold kvI
    rw [List.map_map, List.map_map]
    refine List.map_congr_left fun e _ => ?_
    show (if (Sum.inl e.1 : L2.Key) = .inl n then _ else _) = _
    by_cases h : e.1 = n
    · rw [if_pos (by rw [h])]
      simp [h]
    · rw [if_neg (fun z => h (by injection z))]
      simp [h]
  · unfold kvI
    rw [List.map_append]
    rfl
theorem dropK_I {ps : List (Int × Int)} {n : Int} : dropK (kvI ps) (.inl n) = kvI (dropI ps n) := by
  unfold dropK dropI kvI
  rw [List.filter_map]
  refine congrArg _ (List.filter_congr fun e _ => ?_)
  show decide ((Sum.inl e.1 : L2.Key) ≠ .inl n) = decide (e.1 ≠ n)
  rw [decide_eq_decide]
  exact ⟨fun z y => z (by rw [y]), fun z y => z (by injection y)⟩
theorem kvI_len {ps : List (Int × Int)} : (kvI ps).length = ps.length := List.length_map _
theorem getI_mem {ps : List (Int × Int)} {n x : Int} (h : getI ps n = some x) : (n, x) ∈ ps := by
  unfold getI at h
  cases hf : ps.find? (fun e => decide (e.1 = n)) with
  | none => rw [hf] at h; simp at h
  | some e =>
    rw [hf] at h
    simp at h
    have h1 := List.mem_of_find?_eq_some hf
    have h2 : e.1 = n := by simpa using List.find?_some hf
    rw [← h2, ← h]
    exact h1
/-! ### the book -/
structure Bk where
  b : Int
  p : Int
  wh : List (Int × Int)
  nm : List V
  live : List Int
  fil : List Int
  born : List Int
  stamp : Int
structure BF where
  dx : Addr
  wh : Addr
  nm : Addr
  lv : Addr
  fl : Addr
  bn : Addr
def bookF (F : BF) (k : Bk) : List (Str × V) := [("blocks", .int k.b), ("pages", .int k.p), ("where", .ref F.wh), ("names", .ref F.nm), ("live", .ref F.lv), ("filled", .ref F.fl), ("born", .ref F.bn), ("stamp", .int k.stamp)]
def BF.all (F : BF) (r : Addr) : List Addr := [r, F.wh, F.nm, F.lv, F.fl, F.bn]
/-- what a book is like -/
structure BkOk (k : Bk) : Prop where
  b : 2 ≤ k.b ∧ k.b ≤ 16
  p : 1 ≤ k.p ∧ k.p ≤ 16
  nm : (k.nm.length : Int) = k.b * k.p
  live : (k.live.length : Int) = k.b
  fil : (k.fil.length : Int) = k.b
  born : (k.born.length : Int) = k.b
  wh : ∀ e ∈ k.wh, 0 ≤ e.2 ∧ e.2 < k.b * k.p
  whl : k.wh.length ≤ 900
  st : 0 ≤ k.stamp ∧ k.stamp < 10 ^ 40
structure BookAt (C : Addr) (H : Hp) (r : Addr) (F : BF) (k : Bk) : Prop where
  obj : H r = some (.ins C F.dx (bookF F k))
  wh : H F.wh = some (.dK (kvI k.wh))
  nm : H F.nm = some (.lst k.nm)
  lv : H F.lv = some (.lst (k.live.map V.int))
  fl : H F.fl = some (.lst (k.fil.map V.int))
  bn : H F.bn = some (.lst (k.born.map V.int))
  nd : (BF.all F r).Nodup
theorem BookAt.mono {C : Addr} {H H' : Hp} {r : Addr} {F : BF} {k : Bk} (s : Same H H') (h : BookAt C H r F k) : BookAt C H' r F k := ⟨s _ _ h.obj, s _ _ h.wh, s _ _ h.nm, s _ _ h.lv, s _ _ h.fl, s _ _ h.bn, h.nd⟩
theorem BookAt.off {C : Addr} {H H' : Hp} {r : Addr} {F : BF} {k : Bk} {S : List Addr} (h : BookAt C H r F k) (s : Off S H H') (n : ∀ a, a ∈ F.all r → a ∉ S) : BookAt C H' r F k := by
  unfold BF.all at n
  exact ⟨s.at h.obj (n _ (by simp)), s.at h.wh (n _ (by simp)), s.at h.nm (n _ (by simp)), s.at h.lv (n _ (by simp)), s.at h.fl (n _ (by simp)), s.at h.bn (n _ (by simp)), h.nd⟩
theorem BookAt.ne {C : Addr} {H : Hp} {r : Addr} {F : BF} {k : Bk} (h : BookAt C H r F k) : (r ≠ F.wh ∧ r ≠ F.nm ∧ r ≠ F.lv ∧ r ≠ F.fl ∧ r ≠ F.bn) ∧ (F.wh ≠ F.nm ∧ F.wh ≠ F.lv ∧ F.wh ≠ F.fl ∧ F.wh ≠ F.bn) ∧ (F.nm ≠ F.lv ∧ F.nm ≠ F.fl ∧ F.nm ≠ F.bn) ∧ (F.lv ≠ F.fl ∧ F.lv ≠ F.bn) ∧ F.fl ≠ F.bn := by
  have d := h.nd
  unfold BF.all at d
  simp only [List.nodup_cons, List.mem_cons, List.not_mem_nil, or_false, not_or, not_false_eq_true, List.nodup_nil, and_true] at d
  exact d
theorem BookAt.there {C : Addr} {H : Hp} {r : Addr} {F : BF} {k : Bk} (h : BookAt C H r F k) : ∀ a ∈ F.all r, ∃ o, H a = some o ∧ ∀ xs, o ≠ .tup xs := fun a ha => by
  unfold BF.all at ha
  simp only [List.mem_cons, List.not_mem_nil, or_false] at ha
  rcases ha with rfl | rfl | rfl | rfl | rfl | rfl
  · exact ⟨_, h.obj, fun _ z => by cases z⟩
  · exact ⟨_, h.wh, fun _ z => by cases z⟩
  · exact ⟨_, h.nm, fun _ z => by cases z⟩
  · exact ⟨_, h.lv, fun _ z => by cases z⟩
  · exact ⟨_, h.fl, fun _ z => by cases z⟩
  · exact ⟨_, h.bn, fun _ z => by cases z⟩
theorem BookAt.fresh {C : Addr} {H : Hp} {r : Addr} {F : BF} {k : Bk} (h : BookAt C H r F k) {q : Addr} (hq : H q = none) : q ∉ F.all r := fun m => by
  obtain ⟨o, e, _⟩ := h.there q m
  rw [hq] at e
  cases e
def Bk.new (b p : Int) : Bk := { b, p, wh := [], nm := List.replicate (b * p).toNat .non, live := List.replicate b.toNat 0, fil := List.replicate b.toNat 0, born := List.replicate b.toNat 0, stamp := 1 }
theorem Bk.new_ok {b p : Int} (hb : 2 ≤ b ∧ b ≤ 16) (hp : 1 ≤ p ∧ p ≤ 16) : BkOk (Bk.new b p) := by
  have hbp : 0 ≤ b * p := Int.mul_nonneg (by omega) (by omega)
  refine ⟨hb, hp, ?_, ?_, ?_, ?_, (fun e h => by cases h), (by show 0 ≤ 900; decide), ⟨(by show (0:Int) ≤ 1; decide), (by show (1:Int) < 10 ^ 40; decide)⟩⟩
  · show ((List.replicate _ _).length : Int) = b * p
    rw [List.length_replicate]; omega
  · show ((List.replicate _ _).length : Int) = b
    rw [List.length_replicate]; omega
  · show ((List.replicate _ _).length : Int) = b
    rw [List.length_replicate]; omega
  · show ((List.replicate _ _).length : Int) = b
    rw [List.length_replicate]; omega
local macro_rules | `(tactic| walk_at "u") => `(tactic| ((with_reducible refine' x_appO ?ho ?_ ?hl); (case ho => walk_at "hp"); (try (case hl => walk_at "side")); intro H1 hO hI; (try dsimp only)))
def spBInit (T : Txt K mg) : Sp := fun vs H Q _ => ∃ (r dx : Addr) (b p : Int), vs = [.ref r, .int b, .int p] ∧ H r = some (.ins T.C_Book dx []) ∧ (2 ≤ b ∧ b ≤ 16) ∧ (1 ≤ p ∧ p ≤ 16) ∧
  ∀ F H', Off [r] H H' → (∀ a ∈ F.all r, a ≠ r → H a = none) → BookAt T.C_Book H' r F (Bk.new b p) → Q .non H'
theorem ok_Book_init (T : Txt K mg) : FO P w K mg base 1 T.a_Book_init T.fd_Book_init ["self", "blocks", "pages"] (spBInit T) := by
  have sc := sc_Book_init
  refine T.F_Book_init.okX sc (fun vs H Q E h => ?_) (fun cdv A outer s H vs Q E hr h => ?_)
  · obtain ⟨_, _, _, _, rfl, _⟩ := h
    rfl
  · obtain ⟨r, dx, b, p, rfl, hR, hb, hp, q⟩ := h
    refine ⟨_, (pss_cons (ps_fld (pv 0) (pv 1) rfl)
      (pss_cons (ps_fld (pv 0) (pv 2) rfl)
      (pss_cons (ps_fld (pv 0) pe_dnewK rfl)
      (pss_cons (ps_fld (pv 0) (pe_op op_uMul (pe_lst (pa_cons pe_non pa_nil)) (pe_op op_uMul (pv 1) (pv 2))) rfl)
      (pss_cons (ps_fld (pv 0) (pe_op op_uMul (pe_lst (pa_cons pe_int pa_nil)) (pv 1)) rfl)
      (pss_cons (ps_fld (pv 0) (pe_op op_uMul (pe_lst (pa_cons pe_int pa_nil)) (pv 1)) rfl)
      (pss_cons (ps_fld (pv 0) (pe_op op_uMul (pe_lst (pa_cons pe_int pa_nil)) (pv 1)) rfl)
      (pss_one (ps_fld (pv 0) pe_int rfl))))))))), ?_⟩
    have hBP0 : 0 ≤ b * p := Int.mul_nonneg (by omega) (by omega)
    have hBP : b * p ≤ 16 * 16 := Int.mul_le_mul hb.2 hp.2 (by omega) (by decide)
    walk_at "begin"
    walk_at "go"
    rename_i H1 hO1 hI1 H2 hO2 hI2 wh W1 hwh sw nw H3 hO3 hI3 x1 A1 hx1 sx1 nx1 nm A2 hnm snm nnm H4 hO4 hI4 y1 A3 hy1 sy1 ny1 lw A4 hlv slv nlv H5 hO5 hI5 z1 A5 hz1 sz1 nz1 fl A6 hfl sfl nfl H6 hO6 hI6 w1 A7 hw1 sw1 nw1 bn A8 hbn sbn nbn H7 hO7 hI7 H8 hO8 hI8
    have c1 : r ≠ wh := ne_of_none hI2 hwh
    have c2 : r ≠ nm := ne_of_none (sx1 _ _ hI3) hnm
    have c3 : r ≠ lw := ne_of_none (sy1 _ _ hI4) hlv
    have c4 : r ≠ fl := ne_of_none (sz1 _ _ hI5) hfl
    have c5 : r ≠ bn := ne_of_none (sw1 _ _ hI6) hbn
    have c6 : wh ≠ nm := by walk_at "nn"
    have c7 : wh ≠ lw := by walk_at "nn"
    have c8 : wh ≠ fl := by walk_at "nn"
    have c9 : wh ≠ bn := by walk_at "nn"
    have c10 : nm ≠ lw := by walk_at "nn"
    have c11 : nm ≠ fl := by walk_at "nn"
    have c12 : nm ≠ bn := by walk_at "nn"
    have c13 : lw ≠ fl := by walk_at "nn"
    have c14 : lw ≠ bn := by walk_at "nn"
    have c15 : fl ≠ bn := by walk_at "nn"
    have f1 : H8 wh = some (.dK []) := by walk_at "hp"
    have f2 : H8 nm = some (.lst (List.replicate (b * p).toNat .non)) := by walk_at "hp"
    have f3 : H8 lw = some (.lst (List.replicate b.toNat (.int 0))) := by walk_at "hp"
    have f4 : H8 fl = some (.lst (List.replicate b.toNat (.int 0))) := by walk_at "hp"
    have f5 : H8 bn = some (.lst (List.replicate b.toNat (.int 0))) := by walk_at "hp"
    have o1 : Off [r] H H2 := hO1.trans hO2
    have o3 : Off [r] H H3 := (o1.trans (Off.of sw)).trans hO3
    have o4 : Off [r] H H4 := (o3.trans (Off.of (sx1.trans snm))).trans hO4
    have o5 : Off [r] H H5 := (o4.trans (Off.of (sy1.trans slv))).trans hO5
    have o6 : Off [r] H H6 := (o5.trans (Off.of (sz1.trans sfl))).trans hO6
    have o8 : Off [r] H H8 := ((o6.trans (Off.of (sw1.trans sbn))).trans hO7).trans hO8
    refine q ⟨dx, wh, nm, lw, fl, bn⟩ H8 o8 (fun a ha hne => ?_) ⟨hI8, f1, f2, ?_, ?_, ?_, ?_⟩
    · unfold BF.all at ha
      simp only [List.mem_cons, List.not_mem_nil, or_false] at ha
      rcases ha with rfl | rfl | rfl | rfl | rfl | rfl
      · exact absurd rfl hne
      · exact off_none o1 hwh hne
      · exact off_none o3 (same_none sx1 hnm) hne
      · exact off_none o4 (same_none sy1 hlv) hne
      · exact off_none o5 (same_none sz1 hfl) hne
      · exact off_none o6 (same_none sw1 hbn) hne
    · show H8 lw = some (.lst ((List.replicate _ _).map V.int))
      rw [List.map_replicate]; exact f3
    · show H8 fl = some (.lst ((List.replicate _ _).map V.int))
      rw [List.map_replicate]; exact f4
    · show H8 bn = some (.lst ((List.replicate _ _).map V.int))
      rw [List.map_replicate]; exact f5
    · unfold BF.all
      simp only [List.nodup_cons, List.mem_cons, List.not_mem_nil, or_false, not_or, not_false_eq_true, List.nodup_nil, and_true]
      exact ⟨⟨c1, c2, c3, c4, c5⟩, ⟨c6, c7, c8, c9⟩, ⟨c10, c11, c12⟩, ⟨c13, c14⟩, c15⟩
def Bk.drop (k : Bk) (n : Int) : Bk := match getI k.wh n with
  | none => k
  | some x => { k with wh := dropI k.wh n, nm := k.nm.set x.toNat .non, live := k.live.set (x / k.p).toNat (k.live.getD (x / k.p).toNat 0 - 1) }
def spForget (T : Txt K mg) : Sp := fun vs H Q _ => ∃ (r : Addr) (F : BF) (k : Bk) (n : Int), vs = [.ref r, .int n] ∧ BookAt T.C_Book H r F k ∧ BkOk k ∧
  ∀ H', Off (F.all r) H H' → BookAt T.C_Book H' r F (k.drop n) → Q .non H'
theorem ok_Book_forget (T : Txt K mg) : FO P w K mg base 1 T.a_Book_forget T.fd_Book_forget ["self", "name"] (spForget T) := by
  have sc := sc_Book_forget
  refine T.F_Book_forget.okX sc (fun vs H Q E h => ?_) (fun cdv A outer s H vs Q E hr h => ?_)
  · obtain ⟨_, _, _, _, rfl, _⟩ := h
    rfl
  · obtain ⟨r, F, k, n, rfl, hB, hk, q⟩ := h
    refine ⟨_, (pss_one (ps_if (pt_cmp (pc_din (hu_of hr) (pv 1) (pe_fld (pv 0) rfl))) (pss_cons (ps_set (i := 2) sc.nd rfl (by first | exact Or.inl rfl | exact Or.inr rfl) (pe_dpop1 (pe_fld (pv 0) rfl) (pv 1) ⟨rfl, rfl, rfl, rfl⟩))
      (pss_cons (ps_asg pe_non (pg_sub (pe_fld (pv 0) rfl) (pv 2) set_list))
      (pss_one (ps_augS (pe_fld (pv 0) rfl) (pe_op op_fdivW (pv 2) (pe_fld (pv 0) rfl)) get_list pe_int ip_sub set_list)))) pss_nil)), ?_⟩
    obtain ⟨⟨n1, n2, n3, n4, n5⟩, ⟨n6, n7, n8, n9⟩, ⟨n10, n11, n12⟩, ⟨n13, n14⟩, n15⟩ := hB.ne
    have ho := hB.obj
    have a1 := hB.wh
    have a2 := hB.nm
    have a3 := hB.lv
    have a4 := hB.fl
    have a5 := hB.bn
    have z1 := hk.nm
    have z2 := hk.live
    have z3 := hk.p
    have z4 := hk.b
    unfold bookF at ho
    unfold Bk.drop at q
    walk_at "begin"
    walk_at "go"
    rw [valV_I]
    cases hg : getI k.wh n with
    | none =>
      rw [hg] at q
      walk_at "go"
      exact q H Off.refl hB
    | some x =>
      rw [hg] at q
      have hx := hk.wh _ (getI_mem hg)
      dsimp only at hx
      have hb0 : 0 ≤ x / k.p := Int.ediv_nonneg hx.1 (by omega)
      have hb1 : x / k.p < k.b := Int.ediv_lt_of_lt_mul (by omega) hx.2
      refine iteT ?_
      walk_at "go"
      refine x_dpp1I (v := .int x) (by walk_at "hp") (by rw [valV_I, hg]; rfl) (fun H1 hO1 hI1 => ?_)
      rw [dropK_I] at hI1
      walk_at "go"
      rename_i H2 hO2 hI2 H3 hO3 hI3
      have f0 : H3 r = some (.ins T.C_Book F.dx (bookF F k)) := by unfold bookF; walk_at "hp"
      have f1 : H3 F.wh = some (.dK (kvI (dropI k.wh n))) := by walk_at "hp"
      have f2 : H3 F.nm = some (.lst (k.nm.set x.toNat .non)) := by walk_at "hp"
      have f4 : H3 F.fl = some (.lst (k.fil.map V.int)) := by walk_at "hp"
      have f5 : H3 F.bn = some (.lst (k.born.map V.int)) := by walk_at "hp"
      have one : ∀ {y : Addr} {Ha Hb : Hp}, y ∈ F.all r → Off [y] Ha Hb → Off (F.all r) Ha Hb := fun hy h => h.sub fun b hb => by rw [List.mem_singleton.mp hb]; exact hy
      exact q H3 (((one (by simp [BF.all]) hO1).trans (one (by simp [BF.all]) hO2)).trans (one (by simp [BF.all]) hO3)) ⟨f0, f1, f2, by rw [List.map_set]; exact hI3, f4, f5, hB.nd⟩
theorem BkOk.drop {k : Bk} (h : BkOk k) (n : Int) : BkOk (k.drop n) := by
  unfold Bk.drop
  split
  · exact h
  · exact ⟨h.b, h.p, by show ((k.nm.set _ _).length : Int) = _; rw [List.length_set]; exact h.nm, by show ((k.live.set _ _).length : Int) = _; rw [List.length_set]; exact h.live, h.fil, h.born, fun e he => h.wh e (List.mem_filter.mp he).1, Nat.le_trans (List.length_filter_le _ _) h.whl, h.st⟩
theorem drop_b {k : Bk} {n : Int} : (k.drop n).b = k.b := by unfold Bk.drop; split <;> rfl
theorem drop_p {k : Bk} {n : Int} : (k.drop n).p = k.p := by unfold Bk.drop; split <;> rfl
theorem drop_whl {k : Bk} {n : Int} : (k.drop n).wh.length ≤ k.wh.length := by
  unfold Bk.drop
  split
  · exact Nat.le_refl _
  · exact List.length_filter_le _ _
theorem drop_st {k : Bk} {n : Int} : (k.drop n).stamp = k.stamp := by unfold Bk.drop; split <;> rfl
theorem x_mForget {T : Txt K mg} {H : Hp} {Q : VK} {E : XK} {σ : L2.St} {r : Addr} {F : BF} {k : Bk} {t : TA} (hB : BookAt T.C_Book H r F k) (h : t σ H fun vs H2 => spForget T (.ref r :: vs) H2 Q E) : mtK P w K mg base (L2.CX P w) 1 "forget" E σ t Q (.ref r) H :=
  x_mtK hB.obj ⟨⟨_, _, _, T.cl_Book, T.m_Book_forget, ok_Book_forget T, T.bd_Book_forget⟩⟩ rfl h
def Bk.note (k : Bk) (pg n : Int) : Bk :=
  { (k.drop n) with born := (if (k.drop n).fil.getD (pg / k.p).toNat 0 = 0 then (k.drop n).born.set (pg / k.p).toNat (k.drop n).stamp else (k.drop n).born), fil := (k.drop n).fil.set (pg / k.p).toNat ((k.drop n).fil.getD (pg / k.p).toNat 0 + 1), live := (k.drop n).live.set (pg / k.p).toNat ((k.drop n).live.getD (pg / k.p).toNat 0 + 1), nm := (k.drop n).nm.set pg.toNat (.int n), wh := putI (k.drop n).wh n pg, stamp := (k.drop n).stamp + 1 }
def spNote (T : Txt K mg) : Sp := fun vs H Q _ => ∃ (r : Addr) (F : BF) (k : Bk) (pg n : Int), vs = [.ref r, .int pg, .int n] ∧ BookAt T.C_Book H r F k ∧ BkOk k ∧ 0 ≤ pg ∧ pg < k.b * k.p ∧
  ∀ H', Off (F.all r) H H' → BookAt T.C_Book H' r F (k.note pg n) → Q .non H'
theorem ok_Book_note (T : Txt K mg) : FO P w K mg base 2 T.a_Book_note T.fd_Book_note ["self", "page", "name"] (spNote T) := by
  have sc := sc_Book_note
  refine T.F_Book_note.okX sc (fun vs H Q E h => ?_) (fun cdv A outer s H vs Q E hr h => ?_)
  · obtain ⟨_, _, _, _, _, rfl, _⟩ := h
    rfl
  · obtain ⟨r, F, k, pg, n, rfl, hB, hk, h0, h1, q⟩ := h
    refine ⟨_, (pss_cons (ps_expr (pe_methD (k := 1) (pv 0) (hr.mono (by decide)) (passAt (takes_of rfl rfl rfl rfl)) (pa_cons (pv 2) pa_nil)))
      (pss_cons (ps_set (i := 3) sc.nd rfl (by first | exact Or.inl rfl | exact Or.inr rfl) (pe_op op_fdivW (pv 1) (pe_fld (pv 0) rfl)))
      (pss_cons (ps_if (pt_cmpR (op_uEq hr.units) (pe_ix ix_seq (pe_fld (pv 0) rfl) (pv 3) (fun _ _ => rfl)) pe_int (nomark _)) (pss_one (ps_asg (pe_fld (pv 0) rfl) (pg_sub (pe_fld (pv 0) rfl) (pv 3) set_list))) pss_nil)
      (pss_cons (ps_augS (pe_fld (pv 0) rfl) (pv 3) get_list pe_int ip_add set_list)
      (pss_cons (ps_augS (pe_fld (pv 0) rfl) (pv 3) get_list pe_int ip_add set_list)
      (pss_cons (ps_asg (pv 2) (pg_sub (pe_fld (pv 0) rfl) (pv 1) set_list))
      (pss_cons (ps_dput (hu_of hr) (pe_fld (pv 0) rfl) (pv 2) (pv 1) rfl)
      (pss_one (ps_fldaug (pv 0) pe_int in_add))))))))), ?_⟩
    obtain ⟨⟨n1, n2, n3, n4, n5⟩, ⟨n6, n7, n8, n9⟩, ⟨n10, n11, n12⟩, ⟨n13, n14⟩, n15⟩ := hB.ne
    have hk1 := hk.drop n
    have hpb := hk.p
    have hbb := hk.b
    have hb0 : 0 ≤ pg / k.p := Int.ediv_nonneg h0 (by omega)
    have hb1 : pg / k.p < k.b := Int.ediv_lt_of_lt_mul (by omega) h1
    have eb := drop_b (k := k) (n := n)
    have ep := drop_p (k := k) (n := n)
    unfold Bk.note at q
    walk_at "begin"
    walk_at "go"
    refine x_mForget hB ?_
    walk_at "go"
    refine ⟨r, F, k, n, rfl, hB, hk, fun H1 hO1 hB1 => ?_⟩
    generalize k.drop n = k1 at q hk1 hB1 eb ep
    have ho := hB1.obj
    have a1 := hB1.wh
    have a2 := hB1.nm
    have a3 := hB1.lv
    have a4 := hB1.fl
    have a5 := hB1.bn
    have z1 := hk1.nm
    have z2 := hk1.live
    have z3 := hk1.fil
    have z4 := hk1.born
    have z5 := hk1.whl
    rw [eb] at z1 z2 z3 z4
    rw [ep] at z1
    unfold bookF at ho
    rw [ep] at ho
    have hO1' := hO1
    clear hO1
    walk_at "go"
    refine x_join (fun σ' H2 => σ' = [some (.ref r), some (.int pg), some (.int n), some (.int (pg / k.p))] ∧ Off [F.bn] H1 H2 ∧ H2 F.bn = some (.lst ((if k1.fil.getD (pg / k.p).toNat 0 = 0 then k1.born.set (pg / k.p).toNat k1.stamp else k1.born).map V.int))) (fun R hR => ?_) ?_
    · walk_at "go"
      refine x_iteD (fun h => ?_) (fun h => ?_)
      · walk_at "go"
        rename_i H2 hO2 hI2
        exact hR _ _ ⟨rfl, hO2, by rw [if_pos h, List.map_set]; exact hI2⟩
      · walk_at "go"
        exact hR _ _ ⟨rfl, Off.refl, by rw [if_neg h]; exact a5⟩
    intro σ' H2 ⟨hσ, hO2, hI2⟩
    subst hσ
    walk_at "go"
    rename_i H3 hO3 hI3 H4 hO4 hI4 H5 hO5 hI5
    have e1 : H5 F.wh = some (.dK (kvI k1.wh)) := by walk_at "hp"
    refine x_dpI (kvs' := kvI (putI k1.wh n pg)) (by exact e1) putK_I (fun H6 hO6 hI6 => ?_) (by rw [kvI_len]; omega)
    walk_at "go"
    have e2 : H6 r = some (.ins T.C_Book F.dx [("blocks", .int k1.b), ("pages", .int k.p), ("where", .ref F.wh), ("names", .ref F.nm), ("live", .ref F.lv), ("filled", .ref F.fl), ("born", .ref F.bn), ("stamp", .int k1.stamp)]) := by walk_at "hp"
    refine x_faK e2 rfl ?_ T.cl_Book T.na_Book_stamp
    walk_at "go"
    refine x_f3O (fs' := [("blocks", .int k1.b), ("pages", .int k.p), ("where", .ref F.wh), ("names", .ref F.nm), ("live", .ref F.lv), ("filled", .ref F.fl), ("born", .ref F.bn), ("stamp", .int (k1.stamp + 1))]) e2 rfl (fun H7 hO7 hI7 => ?_) (Nat.le_of_ble_eq_true rfl)
    have f1 : H7 F.wh = some (.dK (kvI (putI k1.wh n pg))) := by walk_at "hp"
    have f2 : H7 F.nm = some (.lst (k1.nm.set pg.toNat (.int n))) := by walk_at "hp"
    have f3 : H7 F.lv = some (.lst ((k1.live.set (pg / k.p).toNat (k1.live.getD (pg / k.p).toNat 0 + 1)).map V.int)) := by rw [List.map_set]; walk_at "hp"
    have f4 : H7 F.fl = some (.lst ((k1.fil.set (pg / k.p).toNat (k1.fil.getD (pg / k.p).toNat 0 + 1)).map V.int)) := by rw [List.map_set]; walk_at "hp"
    have f5 : H7 F.bn = some (.lst ((if k1.fil.getD (pg / k.p).toNat 0 = 0 then k1.born.set (pg / k.p).toNat k1.stamp else k1.born).map V.int)) := by walk_at "hp"
    have one : ∀ {y : Addr} {Ha Hb : Hp}, y ∈ F.all r → Off [y] Ha Hb → Off (F.all r) Ha Hb := fun hy h => h.sub fun b hb => by rw [List.mem_singleton.mp hb]; exact hy
    refine q H7 (((((hO1'.trans (one (by simp [BF.all]) hO2)).trans (one (by simp [BF.all]) hO3)).trans (one (by simp [BF.all]) hO4)).trans (one (by simp [BF.all]) hO5)).trans ((one (by simp [BF.all]) hO6).trans (one (by simp [BF.all]) hO7))) ⟨?_, f1, f2, f3, f4, f5, hB.nd⟩
    rw [← ep] at hI7
    exact hI7
theorem putI_mem {ps : List (Int × Int)} {n x : Int} {e : Int × Int} (h : e ∈ putI ps n x) : e ∈ ps ∨ e.2 = x := by
  unfold putI at h
  split at h
  · obtain ⟨y, hy, rfl⟩ := List.mem_map.mp h
    split
    · exact .inr rfl
    · exact .inl hy
  · rcases List.mem_append.mp h with h | h
    · exact .inl h
    · rw [List.mem_singleton.mp h]; exact .inr rfl
theorem putI_len {ps : List (Int × Int)} {n x : Int} : (putI ps n x).length ≤ ps.length + 1 := by
  unfold putI
  split
  · rw [List.length_map]; exact Nat.le_succ _
  · rw [List.length_append]; exact Nat.le_refl _
theorem BkOk.note {k : Bk} (h : BkOk k) {pg n : Int} (h0 : 0 ≤ pg) (h1 : pg < k.b * k.p) (hl : k.wh.length < 900) (hs : k.stamp + 1 < 10 ^ 40) : BkOk (k.note pg n) := by
  have d := h.drop n
  have eb := drop_b (k := k) (n := n)
  have ep := drop_p (k := k) (n := n)
  have es := drop_st (k := k) (n := n)
  have el := drop_whl (k := k) (n := n)
  unfold Bk.note
  refine ⟨d.b, d.p, ?_, ?_, ?_, ?_, fun e he => ?_, ?_, ?_⟩
  · show (((k.drop n).nm.set _ _).length : Int) = _; rw [List.length_set]; exact d.nm
  · show (((k.drop n).live.set _ _).length : Int) = _; rw [List.length_set]; exact d.live
  · show (((k.drop n).fil.set _ _).length : Int) = _; rw [List.length_set]; exact d.fil
  · dsimp only
    split
    · rw [List.length_set]; exact d.born
    · exact d.born
  · rcases putI_mem he with he | he
    · exact d.wh e he
    · show 0 ≤ e.2 ∧ e.2 < (k.drop n).b * (k.drop n).p
      rw [he, eb, ep]; exact ⟨h0, h1⟩
  · exact Nat.le_trans putI_len (by omega)
  · show 0 ≤ (k.drop n).stamp + 1 ∧ (k.drop n).stamp + 1 < 10 ^ 40
    rw [es]
    have := h.st
    exact ⟨by omega, hs⟩
theorem x_mNote {T : Txt K mg} {H : Hp} {Q : VK} {E : XK} {σ : L2.St} {r : Addr} {F : BF} {k : Bk} {t : TA} (hB : BookAt T.C_Book H r F k) (h : t σ H fun vs H2 => spNote T (.ref r :: vs) H2 Q E) : mtK P w K mg base (L2.CX P w) 2 "note" E σ t Q (.ref r) H :=
  x_mtK hB.obj ⟨⟨_, _, _, T.cl_Book, T.m_Book_note, ok_Book_note T, T.bd_Book_note⟩⟩ rfl h
local macro_rules | `(tactic| walk_at "u") => `(tactic| ((with_reducible refine x_mark ?_ ?hs); (try (case hs => walk_at "side"))))
def spBMark (T : Txt K mg) : Sp := fun vs H Q _ => ∃ (r : Addr) (F : BF) (k : Bk) (n : Int), vs = [.ref r, .int n] ∧ BookAt T.C_Book H r F k ∧ BkOk k ∧ 0 ≤ n ∧ n < 128 ∧ Q (.int (mk k.stamp n)) H
theorem ok_Book_mark (T : Txt K mg) : FO P w K mg base 2 T.a_Book_mark T.fd_Book_mark ["self", "name"] (spBMark T) := by
  have sc := sc_Book_mark
  refine T.F_Book_mark.okX sc (fun vs H Q E h => ?_) (fun cdv A outer s H vs Q E hr h => ?_)
  · obtain ⟨_, _, _, _, rfl, _⟩ := h
    rfl
  · obtain ⟨r, F, k, n, rfl, hB, hk, h0, h1, q⟩ := h
    refine ⟨_, (pss_one (ps_ret (pe_callS (ok_mark_of T) (hr.mono (by decide)) (by rfl) T.g_mark_of T.k_mark_of T.bd_mark_of (passAt (takes_of rfl rfl rfl rfl)) (pa_cons (pe_fld (pv 0) rfl) (pa_cons (pv 1) pa_nil))))), ?_⟩
    have ho := hB.obj
    unfold bookF at ho
    have hst := hk.st
    have hs : 0 ≤ k.stamp ∧ k.stamp < 10 ^ 45 ∧ 0 ≤ n ∧ n < 128 := ⟨hst.1, Int.lt_trans hst.2 (by decide), h0, h1⟩
    walk_at "begin"
    walk_at "go"
    exact q
theorem x_mMark {T : Txt K mg} {H : Hp} {Q : VK} {E : XK} {σ : L2.St} {r : Addr} {F : BF} {k : Bk} {t : TA} (hB : BookAt T.C_Book H r F k) (h : t σ H fun vs H2 => spBMark T (.ref r :: vs) H2 Q E) : mtK P w K mg base (L2.CX P w) 2 "mark" E σ t Q (.ref r) H :=
  x_mtK hB.obj ⟨⟨_, _, _, T.cl_Book, T.m_Book_mark, ok_Book_mark T, T.bd_Book_mark⟩⟩ rfl h
/-! ### the sheets that a book holds -/
def heldL (k : Bk) : List Int := sortZ ((k.wh.map (·.1)).filter fun n => decide (n ≠ 64))
def spBHeld (T : Txt K mg) : Sp := fun vs H Q _ => ∃ (r : Addr) (F : BF) (k : Bk), vs = [.ref r] ∧ BookAt T.C_Book H r F k ∧ BkOk k ∧ ∀ p H', Same H H' → H p = none → H' p = some (.lst ((heldL k).map V.int)) → Q (.ref p) H'
theorem ok_Book_held (T : Txt K mg) : FO P w K mg base 2 T.a_Book_held T.fd_Book_held ["self"] (spBHeld T) := by
  have sc := sc_Book_held
  refine T.F_Book_held.okX sc (fun vs H Q E h => ?_) (fun cdv A outer s H vs Q E hr h => ?_)
  · obtain ⟨_, _, _, rfl, _⟩ := h
    rfl
  · obtain ⟨r, F, k, rfl, hB, hk, q⟩ := h
    refine ⟨_, (pss_one (ps_ret (pe_callB (cr_usorted) (by rfl) T.b_sorted bt_sorted (pa_cons (pe_lock (pe_lc (own := [("name", 1)]) (by rfl) sc.nd (pi_keys (pe_fld (pv 0) rfl)) (blkOk_by (own := [("name", 1)]) (N := N_Book_held) (sc := defScope s_Book_held) (by decide +kernel)) (fun _ _ _ _ _ => (pg_name (i := 1) sc.nd rfl (by first | exact Or.inl rfl | exact Or.inr rfl))) (fun _ _ _ _ _ => (pts_one (pt_cmpR (K_ne (K := K) hr.units) (pv 1) (pe_glob rfl T.g_ROLL T.r_ROLL) (nomark _)))) (fun _ _ _ _ _ => (pv 1)))) pa_nil)))), ?_⟩
    have ho := hB.obj
    unfold bookF at ho
    have n1 := hB.ne.1.1
    have hwl := hk.whl
    walk_at "begin"
    walk_at "go"
    refine x_lcDK hB.wh (fun od Q' q' => ?_) (fun i acc H' => acc = (((k.wh.map (·.1)).take i).filter fun n => decide (n ≠ 64)).map V.int) (fun _ _ _ _ _ h => h) (Nat.lt_of_le_of_lt (show _ ≤ 1000 by rw [kvI_len]; omega) (by decide)) rfl ?_ ?_
    · have ho2 := (upd_ne (H := H) (o := .frz od (.dK (kvI k.wh))) n1).trans ho
      walk_at "go"
      exact q'
    · intro i kk v acc H' hk' hO hfr ha NY NN hY hN
      unfold kvI at hk'
      rw [List.getElem?_map] at hk'
      cases he : k.wh[i]? with
      | none => rw [he] at hk'; simp at hk'
      | some e =>
        rw [he] at hk'
        simp at hk'
        obtain ⟨rfl, rfl⟩ := hk'
        have ek : (k.wh.map (·.1)).take (i + 1) = (k.wh.map (·.1)).take i ++ [e.1] := by
          rw [List.take_add_one, List.getElem?_map, he]
          rfl
        dsimp only [wipe, kV]
        walk_at "go"
        refine ⟨rfl, ?_⟩
        walk_at "go"
        by_cases h64 : e.1 = 64
        · rw [decide_eq_true h64]
          refine x_iteB (fun _ => ?_) (fun h => absurd h (by decide))
          refine hN _ (fun _ _ h => h) ?_
          show acc = _
          rw [ek, List.filter_append, List.filter_cons_of_neg (by simp [h64]), List.filter_nil, List.append_nil]
          exact ha
        · rw [decide_eq_false h64]
          refine x_iteB (fun h => absurd h (by decide)) (fun _ => ?_)
          walk_at "go"
          refine hY _ _ (fun _ _ h => h) ?_
          show acc ++ _ = _
          rw [ek, List.filter_append, List.filter_cons_of_pos (by simp [h64]), List.filter_nil, List.map_append, ha]
          rfl
    · intro p acc H1 hp hs1 hn1 ha
      rw [ha, kvI_len, ← List.length_map (f := fun e : Int × Int => e.1), List.take_length] at hn1
      walk_at "go"
      refine x_sortI (SqL.of hn1) fun p2 H2 hp2 hs2 hn2 => ?_
      exact q p2 H2 (hs1.trans hs2) (same_none hs1 hp2) hn2
theorem x_mBHeld {T : Txt K mg} {H : Hp} {Q : VK} {E : XK} {σ : L2.St} {r : Addr} {F : BF} {k : Bk} (hB : BookAt T.C_Book H r F k) (hk : BkOk k) (q : ∀ p H', Same H H' → H p = none → H' p = some (.lst ((heldL k).map V.int)) → Q (.ref p) H') : mtK P w K mg base (L2.CX P w) 2 "held" E σ tNil Q (.ref r) H :=
  x_mtK hB.obj ⟨⟨_, _, _, T.cl_Book, T.m_Book_held, ok_Book_held T, T.bd_Book_held⟩⟩ rfl ⟨r, F, k, rfl, hB, hk, q⟩
/-! ### terms -/
def TmAt (C : Addr) (H : Hp) (r : Addr) (b p s h i z : Int) : Prop := ∃ dx, H r = some (.ins C dx [("blocks", .int b), ("pages", .int p), ("sheets", .int s), ("share", .int h), ("ill", .int i), ("spread", .int z)])
def spClosed (T : Txt K mg) : Sp := fun vs H Q _ => ∃ (r dx : Addr) (b i : Int) (fs : List (Str × V)), vs = [.ref r] ∧ H r = some (.ins T.C_Terms dx fs) ∧ fs.lookup ("blocks" : Str) = some (V.int b) ∧ fs.lookup ("ill" : Str) = some (V.int i) ∧ Q (.int (b - 1 - i)) H
theorem ok_Terms_closed (T : Txt K mg) : FO P w K mg base 1 T.a_Terms_closed T.fd_Terms_closed ["self"] (spClosed T) := by
  have sc := sc_Terms_closed
  refine T.F_Terms_closed.okX sc (fun vs H Q E h => ?_) (fun cdv A outer s H vs Q E hr h => ?_)
  · obtain ⟨_, _, _, _, _, rfl, _⟩ := h
    rfl
  · obtain ⟨r, dx, b, i, fs, rfl, hR, h1, h2, q⟩ := h
    refine ⟨_, (pss_one (ps_ret (pe_op op_sub (pe_op op_sub (pe_fld (pv 0) rfl) pe_int) (pe_fld (pv 0) rfl)))), ?_⟩
    walk_at "begin"
    walk_at "go"
    refine x_fldK hR h1 ?_ T.cl_Terms T.na_Terms_blocks
    walk_at "go"
    refine x_fldK hR h2 ?_ T.cl_Terms T.na_Terms_ill
    walk_at "go"
    exact q
theorem MO_closed (T : Txt K mg) : MO P w K mg base (L2.CX P w) 1 T.C_Terms "closed" (spClosed T) := ⟨⟨_, _, _, T.cl_Terms, T.m_Terms_closed, ok_Terms_closed T, T.bd_Terms_closed⟩⟩
/-- whether the six are tmGood terms -/
def tmGood (b p s h i z : Option Int) : Bool := inB b 2 16 && inB p 1 16 && inB s 1 64 && inB i 0 (b.getD 0 - 2) && inB z 1 1000000 && inB h 1 ((b.getD 0 - 1 - i.getD 0) * p.getD 0 - 2)
def spTInit (T : Txt K mg) : Sp := fun vs H Q E => ∃ (r dx : Addr) (vb vp vs' vh vi vz : V) (b p s h i z : Option Int), vs = [.ref r, vb, vp, vs', vh, vi, vz] ∧ H r = some (.ins T.C_Terms dx []) ∧
  Num vb b ∧ Num vp p ∧ Num vs' s ∧ Num vh h ∧ Num vi i ∧ Num vz z ∧ ((tmGood b p s h i z = true ∧ ∀ H', Off [r] H H' → TmAt T.C_Terms H' r (b.getD 0) (p.getD 0) (s.getD 0) (h.getD 0) (i.getD 0) (z.getD 0) → Q .non H') ∨
    (tmGood b p s h i z = false ∧ ∀ H', Off [r] H H' → E (.ref T.C_NoTerms) none H'))
theorem ok_Terms_init (T : Txt K mg) : FO P w K mg base 3 T.a_Terms_init T.fd_Terms_init ["self", "blocks", "pages", "sheets", "share", "ill", "spread"] (spTInit T) := by
  have sc := sc_Terms_init
  refine T.F_Terms_init.okX sc (fun vs H Q E h => ?_) (fun cdv A outer s H vs Q E hr h => ?_)
  · obtain ⟨_, _, _, _, _, _, _, _, _, _, _, _, _, _, rfl, _⟩ := h
    rfl
  · obtain ⟨r, dx, vb, vp, vs', vh, vi, vz, b, p, s, h, i, z, rfl, hR, nb, np, ns, nh, ni, nz, q⟩ := h
    refine ⟨_, (pss_cons (ps_if (PW.pt (pw_or (pt_not (pt_truth (pe_callS (ok_is_within T) (hr.mono (by decide)) (by rfl) T.g_is_within T.k_is_within T.bd_is_within (passAt (takes_of rfl rfl rfl rfl)) (pa_cons (pv 1) (pa_cons pe_int (pa_cons pe_int pa_nil)))) (by intro _; rfl))) (pw_or (pt_not (pt_truth (pe_callS (ok_is_within T) (hr.mono (by decide)) (by rfl) T.g_is_within T.k_is_within T.bd_is_within (passAt (takes_of rfl rfl rfl rfl)) (pa_cons (pv 2) (pa_cons pe_int (pa_cons pe_int pa_nil)))) (by intro _; rfl))) (pw_or1 (pt_not (pt_truth (pe_callS (ok_is_within T) (hr.mono (by decide)) (by rfl) T.g_is_within T.k_is_within T.bd_is_within (passAt (takes_of rfl rfl rfl rfl)) (pa_cons (pv 3) (pa_cons pe_int (pa_cons pe_int pa_nil)))) (by intro _; rfl))))))) (pss_one (ps_raiseK rfl (takes_of rfl rfl rfl rfl) (pmk_ownK T.xc_NoTerms T.g_NoTerms rfl))) pss_nil)
      (pss_cons (ps_if (PW.pt (pw_or (pt_not (pt_truth (pe_callS (ok_is_within T) (hr.mono (by decide)) (by rfl) T.g_is_within T.k_is_within T.bd_is_within (passAt (takes_of rfl rfl rfl rfl)) (pa_cons (pv 5) (pa_cons pe_int (pa_cons (pe_op op_sub (pv 1) pe_int) pa_nil)))) (by intro _; rfl))) (pw_or1 (pt_not (pt_truth (pe_callS (ok_is_within T) (hr.mono (by decide)) (by rfl) T.g_is_within T.k_is_within T.bd_is_within (passAt (takes_of rfl rfl rfl rfl)) (pa_cons (pv 6) (pa_cons pe_int (pa_cons pe_int pa_nil)))) (by intro _; rfl)))))) (pss_one (ps_raiseK rfl (takes_of rfl rfl rfl rfl) (pmk_ownK T.xc_NoTerms T.g_NoTerms rfl))) pss_nil)
      (pss_cons (ps_fld (pv 0) (pv 1) rfl)
      (pss_cons (ps_fld (pv 0) (pv 2) rfl)
      (pss_cons (ps_fld (pv 0) (pv 3) rfl)
      (pss_cons (ps_fld (pv 0) (pv 4) rfl)
      (pss_cons (ps_fld (pv 0) (pv 5) rfl)
      (pss_cons (ps_fld (pv 0) (pv 6) rfl)
      (pss_one (ps_if (pt_not (pt_truth (pe_callS (ok_is_within T) (hr.mono (by decide)) (by rfl) T.g_is_within T.k_is_within T.bd_is_within (passAt (takes_of rfl rfl rfl rfl)) (pa_cons (pv 4) (pa_cons pe_int (pa_cons (pe_op op_sub (pe_op op_uMul (pe_methD0 (k := 1) (pv 0) (hr.mono (by decide)) (passAt (takes_of rfl rfl rfl rfl))) (pv 2)) pe_int) pa_nil)))) (by intro _; rfl))) (pss_one (ps_raiseK rfl (takes_of rfl rfl rfl rfl) (pmk_ownK T.xc_NoTerms T.g_NoTerms rfl))) pss_nil)))))))))), ?_⟩
    walk_at "begin"
    have qE : tmGood b p s h i z = false → ∀ H', Off [r] H H' → E (.ref T.C_NoTerms) none H' := fun hg => by
      rcases q with ⟨hg2, _⟩ | ⟨_, q⟩
      · rw [hg] at hg2; cases hg2
      · exact q
    walk_at "if"
    refine x_wNum nb ?_
    walk_at "go"
    refine x_iteB (fun hb => ?_) (fun hb => ?_)
    rotate_left
    · walk_at "go"
      exact qE (by unfold tmGood; rw [hb]; rfl) H Off.refl
    obtain ⟨b, rfl, rfl, hb1, hb2⟩ := nb.of_inB hb
    walk_at "go"
    refine x_wNum np ?_
    walk_at "go"
    refine x_iteB (fun hp => ?_) (fun hp => ?_)
    rotate_left
    · walk_at "go"
      exact qE (by unfold tmGood; rw [hb, hp]; rfl) H Off.refl
    obtain ⟨p, rfl, rfl, hp1, hp2⟩ := np.of_inB hp
    walk_at "go"
    refine x_wNum ns ?_
    walk_at "go"
    refine x_iteB (fun hs => ?_) (fun hs => ?_)
    rotate_left
    · walk_at "go"
      exact qE (by unfold tmGood; rw [hb, hp, hs]; rfl) H Off.refl
    obtain ⟨s, rfl, rfl, hs1, hs2⟩ := ns.of_inB hs
    walk_at "go"
    walk_at "if"
    refine x_wNum ni ?_
    walk_at "go"
    refine x_iteB (fun hi => ?_) (fun hi => ?_)
    rotate_left
    · walk_at "go"
      exact qE (by unfold tmGood; rw [hb, hp, hs, show inB i 0 ((some b).getD 0 - 2) = false from hi]; rfl) H Off.refl
    obtain ⟨i, rfl, rfl, hi1, hi2⟩ := ni.of_inB hi
    walk_at "go"
    refine x_wNum nz ?_
    walk_at "go"
    refine x_iteB (fun hz => ?_) (fun hz => ?_)
    rotate_left
    · walk_at "go"
      exact qE (by unfold tmGood; rw [hb, hp, hs, show inB (some i) 0 ((some b).getD 0 - 2) = true from hi, hz]; rfl) H Off.refl
    obtain ⟨z, rfl, rfl, hz1, hz2⟩ := nz.of_inB hz
    walk_at "go"
    rename_i H1 hO1 hI1 H2 hO2 hI2 H3 hO3 hI3 H4 hO4 hI4 H5 hO5 hI5 H6 hO6 hI6
    have hO : Off [r] H H6 := ((((hO1.trans hO2).trans hO3).trans hO4).trans hO5).trans hO6
    refine x_mtK hI6 (MO_closed T) rfl ?_
    walk_at "go"
    refine ⟨_, _, _, _, _, rfl, hI6, rfl, rfl, ?_⟩
    walk_at "go"
    refine x_wNum nh ?_
    walk_at "go"
    refine x_iteB (fun hh => ?_) (fun hh => ?_)
    rotate_left
    · walk_at "go"
      exact qE (by unfold tmGood; rw [hb, hp, hs, show inB (some i) 0 ((some b).getD 0 - 2) = true from hi, hz, show inB h 1 (((some b).getD 0 - 1 - (some i).getD 0) * (some p).getD 0 - 2) = false from hh]; rfl) H6 hO
    obtain ⟨h, rfl, rfl, hh1, hh2⟩ := nh.of_inB hh
    walk_at "go"
    rcases q with ⟨_, q⟩ | ⟨hg, _⟩
    · exact q H6 hO ⟨dx, hI6⟩
    · unfold tmGood at hg
      rw [hb, hp, hs, show inB (some i) 0 ((some b).getD 0 - 2) = true from hi, hz, show inB (some h) 1 (((some b).getD 0 - 1 - (some i).getD 0) * (some p).getD 0 - 2) = true from hh] at hg
      cases hg
/-! ### tallies -/
structure Tal where
  b : Int
  l : Int
  c : Int
  o : Int
def Tal.vs (t : Tal) : List V := [.int t.b, .int t.l, .int t.c, .int t.o]
def TalAt (H : Hp) (v : V) (t : Tal) : Prop := ∃ a, v = .ref a ∧ H a = some (.tup t.vs)
def TAll (H : Hp) (vs : List V) (ts : List Tal) : Prop := vs.length = ts.length ∧ ∀ (i : Nat) v t, vs[i]? = some v → ts[i]? = some t → TalAt H v t
/-- a list of tallies -/
def TL (H : Hp) (p : Addr) (ts : List Tal) : Prop := ∃ vs, H p = some (.lst vs) ∧ TAll H vs ts
theorem TalAt.mono {H H' : Hp} {v : V} {t : Tal} (s : TupS H H') (h : TalAt H v t) : TalAt H' v t := by
  obtain ⟨a, e, h⟩ := h
  exact ⟨a, e, s _ _ h⟩
theorem TAll.mono {H H' : Hp} {vs : List V} {ts : List Tal} (s : TupS H H') (h : TAll H vs ts) : TAll H' vs ts := ⟨h.1, fun i v t h1 h2 => (h.2 i v t h1 h2).mono s⟩
theorem TL.mono {H H' : Hp} {p : Addr} {ts : List Tal} (s : Same H H') (h : TL H p ts) : TL H' p ts := by
  obtain ⟨vs, e, h⟩ := h
  exact ⟨vs, s _ _ e, h.mono (TupS.of s)⟩
theorem TAll.nil {H : Hp} : TAll H [] [] := ⟨rfl, fun i v t h _ => by simp at h⟩
theorem TAll.snoc {H : Hp} {vs : List V} {ts : List Tal} {v : V} {t : Tal} (h : TAll H vs ts) (hv : TalAt H v t) : TAll H (vs ++ [v]) (ts ++ [t]) := by
  refine ⟨by simp [h.1], fun i x y h1 h2 => ?_⟩
  by_cases hi : i < vs.length
  · rw [List.getElem?_append_left hi] at h1
    rw [List.getElem?_append_left (h.1 ▸ hi)] at h2
    exact h.2 i x y h1 h2
  · have e : i = vs.length := by
      have := (List.getElem?_eq_some_iff.mp h1).1
      simp at this
      omega
    subst e
    rw [List.getElem?_append_right (Nat.le_refl _)] at h1
    rw [h.1, List.getElem?_append_right (Nat.le_refl _)] at h2
    simp at h1 h2
    subst h1 h2
    exact hv
theorem TAll.get {H : Hp} {vs : List V} {ts : List Tal} (h : TAll H vs ts) {i : Nat} {v : V} (hi : vs[i]? = some v) : ∃ t, ts[i]? = some t ∧ TalAt H v t := by
  have hl := (List.getElem?_eq_some_iff.mp hi).1
  have hl2 : i < ts.length := h.1 ▸ hl
  exact ⟨ts[i], List.getElem?_eq_getElem hl2, h.2 i v _ hi (List.getElem?_eq_getElem hl2)⟩
/-! ### tallies as data -/
def Tal.data (t : Tal) : PyData := .tuple [.int t.b, .int t.l, .int t.c, .int t.o]
theorem TalAt.dp {H : Hp} {v : V} {t : Tal} (h : TalAt H v t) : Dp K H v t.data := by
  obtain ⟨a, rfl, h⟩ := h
  exact .tup (SqT.of h) (.cons (.int _) (.cons (.int _) (.cons (.int _) (.cons (.int _) .nil))))
def tdata (ts : List Tal) : PyData := .list (ts.map Tal.data)
theorem tdata_sh (ts : List Tal) : Sh 9 (tdata ts) := by
  refine Sh.list (k := 8) fun d h => ?_
  obtain ⟨t, _, rfl⟩ := List.mem_map.mp h
  refine Sh.tup (k := 7) fun d h => ?_
  simp only [List.mem_cons, List.not_mem_nil, or_false] at h
  rcases h with rfl | rfl | rfl | rfl <;> exact Sh.int
theorem TAll.dp {H : Hp} {vs : List V} {ts : List Tal} (h : TAll H vs ts) : DpAll K H vs (ts.map Tal.data) := by
  refine dpAll_of (by rw [List.length_map]; exact h.1) fun i v d h1 h2 => ?_
  rw [List.getElem?_map] at h2
  cases e : ts[i]? with
  | none => rw [e] at h2; simp at h2
  | some t =>
    rw [e] at h2
    simp at h2
    subst h2
    exact (h.2 i v t h1 e).dp
theorem TL.dp {H : Hp} {p : Addr} {ts : List Tal} (h : TL H p ts) : Dp K H (.ref p) (tdata ts) := by
  obtain ⟨vs, e, h⟩ := h
  exact .lst (SqL.of e) h.dp
theorem TL.eq {H : Hp} {p q : Addr} {ts : List Tal} {Q : VK} (h1 : TL H p ts) (h2 : TL H q ts) (k : Q (.bl true) H) : uEq K (.ref p) (.ref q) H Q := x_eqS2 h1.dp h2.dp (tdata_sh ts) k
theorem TL.ne {H : Hp} {p q : Addr} {ts : List Tal} {Q : VK} (h1 : TL H p ts) (h2 : TL H q ts) (k : Q (.bl false) H) : uNe K (.ref p) (.ref q) H Q := x_neS2 h1.dp h2.dp (tdata_sh ts) k
theorem TL.eqNil {H : Hp} {p q : Addr} {ts : List Tal} {Q : VK} (h1 : TL H p ts) (h2 : H q = some (.lst [])) (k : Q (.bl ts.isEmpty) H) : uEq K (.ref p) (.ref q) H Q := by
  refine x_eqD h1.dp (.lst (SqL.of h2) .nil) (tdata_sh ts) (Sh.list (k := 8) fun d h => by simp at h) ?_
  cases ts with
  | nil => exact k
  | cons t ts => exact k
theorem TalAt.ne {H : Hp} {v : V} {t : Tal} (h : TalAt H v t) : ∃ a, v = .ref a ∧ SqT K H a t.vs := by
  obtain ⟨a, rfl, h⟩ := h
  exact ⟨a, rfl, SqT.of h⟩
theorem TAll.sub {H : Hp} {vs : List V} {ts : List Tal} (h : TAll H vs ts) (k : Nat) : TAll H (vs.drop k) (ts.drop k) := ⟨by rw [List.length_drop, List.length_drop, h.1], fun i v t h1 h2 => by
  rw [List.getElem?_drop] at h1 h2
  exact h.2 _ v t h1 h2⟩
theorem TAll.take {H : Hp} {vs : List V} {ts : List Tal} (h : TAll H vs ts) (k : Nat) : TAll H (vs.take k) (ts.take k) := ⟨by rw [List.length_take, List.length_take, h.1], fun i v t h1 h2 => by
  rw [List.getElem?_take] at h1 h2
  split at h1
  · rename_i hk
    rw [if_pos hk] at h2
    exact h.2 _ v t h1 h2
  · simp at h1⟩
/-! ### rules -/
def TOk (pages now : Int) (t : Tal) : Prop := 0 ≤ t.b ∧ t.b < 16 ∧ 0 ≤ t.l ∧ t.l ≤ pages ∧ 0 ≤ t.c ∧ t.c < 10 ^ 30 ∧ 0 ≤ t.o ∧ t.o < now
def PN (pages now : Int) : Prop := 1 ≤ pages ∧ pages ≤ 16 ∧ 1 ≤ now ∧ now < 10 ^ 30
/-- what goes_ahead of a rule tells: is g t u, and what it makes stays apart -/
def spGA (g : Int → Int → Tal → Tal → Bool) : Sp := fun vs H Q _ => ∃ (self one other : V) (t u : Tal) (pages now : Int), vs = [self, one, other, .int pages, .int now] ∧ TalAt H one t ∧ TalAt H other u ∧ TOk pages now t ∧ TOk pages now u ∧ PN pages now ∧
  ∀ H', Same H H' → Q (.bl (g pages now t u)) H'
/-- the same, of the object at r, as long as I is so -/
def spGAr (r : Addr) (I : Hp → Prop) (g : Int → Int → Tal → Tal → Bool) : Sp := fun vs H Q _ => ∃ (one other : V) (t u : Tal) (pages now : Int), vs = [.ref r, one, other, .int pages, .int now] ∧ I H ∧ TalAt H one t ∧ TalAt H other u ∧ TOk pages now t ∧ TOk pages now u ∧ PN pages now ∧
  ∀ H', Same H H' → Q (.bl (g pages now t u)) H'
/-- an object with such a rule: rf, what it leans on; n, its level -/
def RuleOb (P : Program) (w : World) (K : PySem.W.Frag) (mg : Str → Option Value) (base : Heap) (n : Nat) (g : Int → Int → Tal → Tal → Bool) (H : Hp) (rf : List Addr) (r : Addr) : Prop :=
  r ∈ rf ∧ (∀ a ∈ rf, ∃ o, H a = some o ∧ ∀ xs, o ≠ .tup xs) ∧ ∃ C dx fs I, H r = some (.ins C dx fs) ∧ fs.lookup (Str.ofString "goes_ahead") = none ∧ fs.lookup (Str.ofString "choose") = none ∧
    (∀ H1 H2 : Hp, (∀ a ∈ rf, ∀ o, H1 a = some o → H2 a = some o) → I H1 → I H2) ∧ I H ∧ MO P w K mg base (L2.CX P w) n C "goes_ahead" (spGAr r I g)
theorem RuleOb.keep {n : Nat} {g : Int → Int → Tal → Tal → Bool} {H H' : Hp} {rf : List Addr} {r : Addr} (k : ∀ a ∈ rf, ∀ o, H a = some o → H' a = some o) (h : RuleOb P w K mg base n g H rf r) : RuleOb P w K mg base n g H' rf r := by
  obtain ⟨m, t, C, dx, fs, I, e, l1, l2, st, i, mo⟩ := h
  exact ⟨m, fun a ha => let ⟨o, e, z⟩ := t a ha; ⟨o, k a ha o e, z⟩, C, dx, fs, I, k r m _ e, l1, l2, st, st H H' k i, mo⟩
theorem RuleOb.mono {n : Nat} {g : Int → Int → Tal → Tal → Bool} {H H' : Hp} {rf : List Addr} {r : Addr} (s : Same H H') (h : RuleOb P w K mg base n g H rf r) : RuleOb P w K mg base n g H' rf r := h.keep fun a _ o e => s a o e
/-- a rule that leans on nothing -/
theorem ruleOb1 {n : Nat} {g : Int → Int → Tal → Tal → Bool} {H : Hp} {r C dx : Addr} (h : H r = some (.ins C dx [])) (m : MO P w K mg base (L2.CX P w) n C "goes_ahead" (spGA g)) : RuleOb P w K mg base n g H [r] r := by
  refine ⟨List.mem_cons_self, fun a ha => ⟨.ins C dx [], by rw [List.mem_singleton.mp ha]; exact h, fun xs z => (by cases z)⟩, C, dx, [], fun _ => True, h, rfl, rfl, fun _ _ _ _ => trivial, trivial, ?_⟩
  obtain ⟨⟨f, fd, ps, c1, c2, c3, c4⟩⟩ := m
  exact ⟨⟨f, fd, ps, c1, c2, c3.imp fun vs H Q E ⟨one, other, t, u, pages, now, e, _, z⟩ => ⟨_, one, other, t, u, pages, now, e, z⟩, c4⟩⟩
/-- the first of those that no later one goes ahead of -/
def pickL (g : Tal → Tal → Bool) (b : Tal) (ts : List Tal) : Tal := ts.foldl (fun b u => if g u b = true then u else b) b
def pick (g : Tal → Tal → Bool) : List Tal → Tal
  | [] => ⟨0, 0, 0, 0⟩
  | t :: ts => pickL g t ts
theorem pickL_mem (g : Tal → Tal → Bool) : ∀ (ts : List Tal) (b : Tal), pickL g b ts = b ∨ pickL g b ts ∈ ts
  | [], b => .inl rfl
  | t :: ts, b => by
    show pickL g (if g t b = true then t else b) ts = b ∨ _
    rcases pickL_mem g ts (if g t b = true then t else b) with h | h
    · rw [h]
      show _ ∨ pickL g (if g t b = true then t else b) ts ∈ _
      rw [h]
      by_cases hg : g t b = true
      · rw [if_pos hg]; exact .inr List.mem_cons_self
      · rw [if_neg hg]; exact .inl rfl
    · exact .inr (List.mem_cons_of_mem _ h)
theorem pickL_snoc (g : Tal → Tal → Bool) (b t : Tal) (ts : List Tal) : pickL g b (ts ++ [t]) = if g t (pickL g b ts) = true then t else pickL g b ts := by
  unfold pickL
  rw [List.foldl_append]
  rfl
def spChoose (P : Program) (w : World) (K : PySem.W.Frag) (mg : Str → Option Value) (base : Heap) : Sp := fun vs H Q _ => ∃ (r p : Addr) (pages now : Int) (ts : List Tal) (g : Int → Int → Tal → Tal → Bool) (rf : List Addr), vs = [.ref r, .ref p, .int pages, .int now] ∧ RuleOb P w K mg base 17 g H rf r ∧ TL H p ts ∧ ts ≠ [] ∧ (∀ t ∈ ts, TOk pages now t) ∧ ts.length ≤ 16 ∧ PN pages now ∧
  ∀ H', Same H H' → Q (.int (pick (g pages now) ts).b) H'
theorem ok_Rule_choose (T : Txt K mg) : FO P w K mg base 18 T.a_Rule_choose T.fd_Rule_choose ["self", "tallies", "pages", "now"] (spChoose P w K mg base) := by
  have sc := sc_Rule_choose
  refine T.F_Rule_choose.okX sc (fun vs H Q E h => ?_) (fun cdv A outer s H vs Q E hr h => ?_)
  · obtain ⟨_, _, _, _, _, _, _, rfl, _⟩ := h
    rfl
  · obtain ⟨r, p, pages, now, ts, g, rf, rfl, hR, hT, hne, hok, hlen, hpn, q⟩ := h
    refine ⟨_, (pss_cons (ps_set (i := 4) sc.nd rfl (by first | exact Or.inl rfl | exact Or.inr rfl) (pe_ix ix_seq (pv 1) pe_int (fun _ _ => rfl)))
      (pss_cons (ps_for (passes_of rfl) rfl (pi_list (pe_slice sl_u (pv 1) (po_some pe_int) po_none)) (pg_name (i := 5) sc.nd rfl (by first | exact Or.inl rfl | exact Or.inr rfl)) (pss_one (ps_if (pt_truth (pe_methD (k := 17) (pv 0) (hr.mono (by decide)) (passAt (takes_of rfl rfl rfl rfl)) (pa_cons (pv 5) (pa_cons (pv 4) (pa_cons (pv 2) (pa_cons (pv 3) pa_nil))))) (by intro _; rfl)) (pss_one (ps_set (i := 4) sc.nd rfl (by first | exact Or.inl rfl | exact Or.inr rfl) (pv 5))) pss_nil)))
      (pss_one (ps_ret (pe_ix ix_seq (pv 4) pe_int (fun _ _ => rfl)))))), ?_⟩
    obtain ⟨vs, hvs, hall⟩ := hT
    obtain ⟨t0, ts0, rfl⟩ : ∃ t0 ts0, ts = t0 :: ts0 := by
      cases ts with
      | nil => exact absurd rfl hne
      | cons a b => exact ⟨a, b, rfl⟩
    obtain ⟨v0, vs0, rfl⟩ : ∃ v0 vs0, vs = v0 :: vs0 := by
      cases vs with
      | nil => exact absurd hall.1 (by simp)
      | cons a b => exact ⟨a, b, rfl⟩
    walk_at "begin"
    walk_at "go"
    refine x_seq ?_
    walk_at "go"
    rename_i q0 H1 hq0 hs1 hn1
    rw [show cutV (v0 :: vs0) (some 1) none = vs0 from cutV_from 1] at hn1
    have hall1 : TAll H1 vs0 ts0 := (hall.mono (TupS.of hs1)).sub 1
    refine x_frL (SqL.of hn1) (fun i σ H2 => ∃ (v5 : Option V) (bv : V), σ = [some (.ref r), some (.ref p), some (.int pages), some (.int now), some bv, v5] ∧ Same H1 H2 ∧ TalAt H2 bv (pickL (g pages now) t0 (ts0.take i)))
      ⟨_, _, rfl, fun _ _ h => h, (hall.2 0 v0 t0 rfl rfl).mono (TupS.of hs1)⟩ (fun i σ H2 hi ⟨_, _, _, hs2, _⟩ => hs2.seq (SqL.of hn1)) ?_ ?_
    · intro i x σ H2 hx ⟨v5, bv, hσ, hs2, hb⟩
      subst hσ
      obtain ⟨t, hti, hxt⟩ := hall1.get hx
      have hit := (List.getElem?_eq_some_iff.mp hti).1
      have hbo : TOk pages now (pickL (g pages now) t0 (ts0.take i)) := by
        rcases pickL_mem (g pages now) (ts0.take i) t0 with e | m
        · rw [e]; exact hok _ List.mem_cons_self
        · exact hok _ (List.mem_cons_of_mem _ (List.mem_of_mem_take m))
      obtain ⟨_, _, C, dx, fs, I, hC, hl1, _, _, hI, hM⟩ := hR.mono (hs1.trans hs2)
      walk_at "go"
      refine x_mtK hC hM hl1 ?_
      walk_at "go"
      refine ⟨_, _, t, _, pages, now, rfl, hI, hxt.mono (TupS.of hs2), hb, hok _ (List.mem_cons_of_mem _ (List.mem_of_getElem? hti)), hbo, hpn, fun H3 hs3 => ?_⟩
      have et : ts0.take (i + 1) = ts0.take i ++ [t] := by rw [List.take_add_one, hti]; rfl
      rw [et, pickL_snoc]
      walk_at "go"
      refine x_iteB (fun hg => ?_) (fun hg => ?_)
      · walk_at "go"
        rw [if_pos hg]
        exact ⟨_, _, rfl, hs2.trans hs3, (hxt.mono (TupS.of hs2)).mono (TupS.of hs3)⟩
      · walk_at "go"
        rw [if_neg (by rw [hg]; decide)]
        exact ⟨_, _, rfl, hs2.trans hs3, hb.mono (TupS.of hs3)⟩
    · intro σ H2 ⟨v5, bv, hσ, hs2, hb⟩
      subst hσ
      rw [hall1.1, List.take_length] at hb
      obtain ⟨a, rfl, hb⟩ := hb
      walk_at "go"
      exact q _ (hs1.trans hs2)
/-! ### what a store holds -/
theorem getI_cons {e : Int × Int} {ps : List (Int × Int)} {n : Int} : getI (e :: ps) n = if e.1 = n then some e.2 else getI ps n := by
  unfold getI
  rw [List.find?_cons]
  by_cases h : e.1 = n
  · rw [decide_eq_true h, if_pos h]; rfl
  · rw [decide_eq_false h, if_neg h]
theorem getI_key {n : Int} : ∀ {ps : List (Int × Int)}, getI ps n = none ↔ n ∉ ps.map (·.1)
  | [] => by simp [getI]
  | e :: ps => by
    rw [getI_cons, List.map_cons, List.mem_cons]
    by_cases h : e.1 = n
    · rw [if_pos h]
      exact ⟨fun z => (by cases z), fun z => absurd (.inl h.symm) z⟩
    · rw [if_neg h, getI_key]
      exact ⟨fun z y => y.elim (fun y => h y.symm) z, fun z y => z (.inr y)⟩
theorem getI_of_mem {ps : List (Int × Int)} (hn : (ps.map (·.1)).Nodup) {n x : Int} (h : (n, x) ∈ ps) : getI ps n = some x := by
  induction ps with
  | nil => cases h
  | cons e ps ih =>
    rw [List.map_cons, List.nodup_cons] at hn
    rw [getI_cons]
    rcases List.mem_cons.mp h with rfl | h
    · rw [if_pos rfl]
    · rw [if_neg (fun z => hn.1 (by rw [z]; exact List.mem_map.mpr ⟨_, h, rfl⟩))]
      exact ih hn.2 h
theorem getI_put {n x m : Int} : ∀ {ps : List (Int × Int)}, getI (putI ps n x) m = if m = n then some x else getI ps m := by
  have hmap : ∀ ps : List (Int × Int), n ∈ ps.map (·.1) → getI (ps.map fun e => if e.1 = n then (e.1, x) else e) m = if m = n then some x else getI ps m := by
    intro ps
    induction ps with
    | nil => intro h; cases h
    | cons e ps ih =>
      intro h
      rw [List.map_cons, getI_cons, getI_cons]
      by_cases he : e.1 = n
      · rw [if_pos he]
        dsimp only
        by_cases hm : m = n
        · rw [if_pos (by rw [he, hm]), if_pos hm]
        · rw [if_neg (fun z => hm (by rw [← z, he])), if_neg hm, if_neg (fun z => hm (by rw [← z, he]))]
          by_cases h2 : n ∈ ps.map (·.1)
          · rw [ih h2, if_neg hm]
          · have : (ps.map fun e => if e.1 = n then (e.1, x) else e) = ps := by
              conv => rhs; rw [← List.map_id ps]
              refine List.map_congr_left fun y hy => ?_
              rw [if_neg (fun z => h2 (by rw [← z]; exact List.mem_map.mpr ⟨_, hy, rfl⟩))]
              rfl
            rw [this]
      · rw [if_neg he]
        have h2 : n ∈ ps.map (·.1) := by
          rcases List.mem_cons.mp h with h | h
          · exact absurd h.symm he
          · exact h
        by_cases hem : e.1 = m
        · rw [if_pos hem, if_neg (fun z => he (by rw [hem, z])), if_pos hem]
        · rw [if_neg hem, if_neg hem]
          exact ih h2
  intro ps
  unfold putI
  split
  · rename_i h
    refine hmap ps ?_
    obtain ⟨e, he, h⟩ := List.any_eq_true.mp h
    exact List.mem_map.mpr ⟨e, he, of_decide_eq_true h⟩
  · rename_i h
    have hk : n ∉ ps.map (·.1) := fun z => h (by
      obtain ⟨e, he, h⟩ := List.mem_map.mp z
      exact List.any_eq_true.mpr ⟨e, he, decide_eq_true h⟩)
    clear hmap h
    induction ps with
    | nil =>
      rw [List.nil_append, getI_cons]
      by_cases hm : m = n
      · rw [if_pos hm, if_pos hm.symm]
      · rw [if_neg hm, if_neg (fun z => hm z.symm)]
    | cons e ps ih =>
      rw [List.map_cons, List.mem_cons, not_or] at hk
      rw [List.cons_append, getI_cons, getI_cons, ih hk.2]
      by_cases hem : e.1 = m
      · rw [if_pos hem, if_pos hem, if_neg (fun z => hk.1 (by rw [← z, hem]))]
      · rw [if_neg hem, if_neg hem]
theorem getI_drop {n m : Int} {ps : List (Int × Int)} : getI (dropI ps n) m = if m = n then none else getI ps m := by
  unfold dropI
  induction ps with
  | nil =>
    rw [List.filter_nil]
    split <;> rfl
  | cons e ps ih =>
    by_cases he : e.1 = n
    · rw [List.filter_cons_of_neg (by simp [he]), ih, getI_cons]
      by_cases hm : m = n
      · rw [if_pos hm, if_pos hm]
      · rw [if_neg hm, if_neg hm, if_neg (fun z => hm (by rw [← z, he]))]
    · rw [List.filter_cons_of_pos (by simp [he]), getI_cons, getI_cons, ih]
      by_cases hem : e.1 = m
      · rw [if_pos hem, if_pos hem, if_neg (fun z => he (by rw [hem, z]))]
      · rw [if_neg hem, if_neg hem]
theorem put_keys {ps : List (Int × Int)} {n x : Int} : (putI ps n x).map (·.1) = if n ∈ ps.map (·.1) then ps.map (·.1) else ps.map (·.1) ++ [n] := by
  unfold putI
  by_cases h : n ∈ ps.map (·.1)
  · have h2 : (ps.any fun e => decide (e.1 = n)) = true := by
      obtain ⟨e, he, h⟩ := List.mem_map.mp h
      exact List.any_eq_true.mpr ⟨e, he, decide_eq_true h⟩
    rw [if_pos h2, if_pos h, List.map_map]
    refine List.map_congr_left fun e _ => ?_
    show (if e.1 = n then (e.1, x) else e).1 = e.1
    split <;> rfl
  · have h2 : ¬ (ps.any fun e => decide (e.1 = n)) = true := fun z => h (by
      obtain ⟨e, he, h⟩ := List.any_eq_true.mp z
      exact List.mem_map.mpr ⟨e, he, of_decide_eq_true h⟩)
    rw [if_neg h2, if_neg h, List.map_append]
    rfl
theorem put_nodup {ps : List (Int × Int)} {n x : Int} (h : (ps.map (·.1)).Nodup) : ((putI ps n x).map (·.1)).Nodup := by
  rw [put_keys]
  split
  · exact h
  · rename_i hn
    rw [List.nodup_append]
    exact ⟨h, by simp, fun a ha b hb => by rw [List.mem_singleton.mp hb]; exact fun z => hn (z ▸ ha)⟩
theorem put_key_mem {ps : List (Int × Int)} {n x m : Int} : m ∈ (putI ps n x).map (·.1) ↔ m = n ∨ m ∈ ps.map (·.1) := by
  rw [put_keys]
  split
  · rename_i h
    exact ⟨.inr, fun z => z.elim (fun z => z ▸ h) id⟩
  · rw [List.mem_append, List.mem_singleton]
    exact Or.comm
theorem drop_nodup {ps : List (Int × Int)} {n : Int} (h : (ps.map (·.1)).Nodup) : ((dropI ps n).map (·.1)).Nodup := List.Nodup.sublist (List.Sublist.map _ List.filter_sublist) h
theorem drop_wh {k : Bk} {n m : Int} : getI (k.drop n).wh m = if m = n then none else getI k.wh m := by
  unfold Bk.drop
  split
  · rename_i h
    by_cases hm : m = n
    · rw [if_pos hm, hm, h]
    · rw [if_neg hm]
  · exact getI_drop
theorem drop_whn {k : Bk} {n : Int} (h : (k.wh.map (·.1)).Nodup) : ((k.drop n).wh.map (·.1)).Nodup := by
  unfold Bk.drop
  split
  · exact h
  · exact drop_nodup h
theorem drop_whm {k : Bk} {n : Int} : ∀ e ∈ (k.drop n).wh, e ∈ k.wh := by
  unfold Bk.drop
  split
  · exact fun e he => he
  · exact fun e he => (List.mem_filter.mp he).1
theorem note_wh {k : Bk} {pg n m : Int} : getI (k.note pg n).wh m = if m = n then some pg else getI k.wh m := by
  show getI (putI (k.drop n).wh n pg) m = _
  rw [getI_put, drop_wh]
  by_cases hm : m = n
  · rw [if_pos hm, if_pos hm]
  · rw [if_neg hm, if_neg hm, if_neg hm]
theorem note_whn {k : Bk} {pg n : Int} (h : (k.wh.map (·.1)).Nodup) : ((k.note pg n).wh.map (·.1)).Nodup := put_nodup (drop_whn h)
theorem note_whm {k : Bk} {pg n : Int} {A : Int → Prop} (h : ∀ e ∈ k.wh, A e.1) (hn : A n) : ∀ e ∈ (k.note pg n).wh, A e.1 := fun e he => by
  have : e.1 ∈ (putI (k.drop n).wh n pg).map (·.1) := List.mem_map.mpr ⟨e, he, rfl⟩
  rcases put_key_mem.mp this with z | z
  · rw [z]; exact hn
  · obtain ⟨y, hy, hye⟩ := List.mem_map.mp z
    rw [← hye]
    exact h y (drop_whm y hy)
/-- unlike numbers below a bound -/
theorem nodup_le : ∀ {N : Nat} {l : List Int}, l.Nodup → (∀ x ∈ l, 0 ≤ x ∧ x < (N : Int)) → l.length ≤ N
  | 0, l, _, h => by
    cases l with
    | nil => exact Nat.le_refl _
    | cons x l =>
      have := h x List.mem_cons_self
      omega
  | N + 1, l, hn, h => by
    have h1 := nodup_le (N := N) (l := l.erase (N : Int)) (hn.erase _) fun x hx => by
      have hx2 := (hn.mem_erase_iff).mp hx
      have := h x hx2.2
      have := hx2.1
      omega
    have h2 : l.length ≤ (l.erase (N : Int)).length + 1 := by
      rw [List.length_erase]
      split <;> omega
    omega
theorem getD_set {α : Type} {l : List α} {n m : Nat} {x d : α} (h : n < l.length) : (l.set n x).getD m d = if m = n then x else l.getD m d := by
  by_cases e : m = n
  · subst e
    rw [if_pos rfl, List.getD_eq_getElem?_getD, List.getElem?_set_self h]
    rfl
  · rw [if_neg e, List.getD_eq_getElem?_getD, List.getElem?_set_ne (Ne.symm e), ← List.getD_eq_getElem?_getD]
theorem drop_fil {k : Bk} {n : Int} : (k.drop n).fil = k.fil := by unfold Bk.drop; split <;> rfl
theorem note_fil {k : Bk} {pg n : Int} : (k.note pg n).fil = k.fil.set (pg / k.p).toNat (k.fil.getD (pg / k.p).toNat 0 + 1) := by
  show (k.drop n).fil.set _ ((k.drop n).fil.getD _ 0 + 1) = _
  rw [drop_fil]
theorem note_st {k : Bk} {pg n : Int} : (k.note pg n).stamp = k.stamp + 1 := by
  show (k.drop n).stamp + 1 = _
  rw [drop_st]
theorem note_bp {k : Bk} {pg n : Int} : (k.note pg n).b = k.b ∧ (k.note pg n).p = k.p := ⟨drop_b, drop_p⟩
theorem getD_set' {α : Type} {l : List α} {n m : Nat} {x d : α} : (l.set n x).getD m d = if m = n ∧ n < l.length then x else l.getD m d := by
  by_cases h : n < l.length
  · rw [getD_set h]
    by_cases e : m = n
    · rw [if_pos e, if_pos ⟨e, h⟩]
    · rw [if_neg e, if_neg (fun z => e z.1)]
  · rw [if_neg (fun z => h z.2), List.set_eq_of_length_le (by omega)]
theorem note_nm {k : Bk} {pg n : Int} : (k.note pg n).nm = (k.drop n).nm.set pg.toNat (.int n) := rfl
theorem drop_nm {k : Bk} {n : Int} : (k.drop n).nm = match getI k.wh n with
    | none => k.nm
    | some x => k.nm.set x.toNat .non := by
  unfold Bk.drop
  cases getI k.wh n <;> rfl
/-! ### terms and addresses of a store -/
structure Ts where
  b : Int
  p : Int
  s : Int
  h : Int
  i : Int
  z : Int
def termF (t : Ts) : List (Str × V) := [("blocks", .int t.b), ("pages", .int t.p), ("sheets", .int t.s), ("share", .int t.h), ("ill", .int t.i), ("spread", .int t.z)]
def bitsI (l : List Int) : Int := ((bitsN (l.map Int.toNat) : Nat) : Int)
theorem heldL_mem {k : Bk} {n : Int} : n ∈ heldL k ↔ (∃ pg, (n, pg) ∈ k.wh) ∧ n ≠ 64 := by
  unfold heldL
  rw [(sortZ_perm _).mem_iff, List.mem_filter, List.mem_map]
  constructor
  · rintro ⟨⟨e, he, rfl⟩, h⟩
    exact ⟨⟨e.2, he⟩, of_decide_eq_true h⟩
  · rintro ⟨⟨pg, he⟩, h⟩
    exact ⟨⟨_, he, rfl⟩, decide_eq_true h⟩
/-! ### a store with no heap: a chip, a book, papers, a rule -/
structure Pc where
  b : Int
  p : Int
  m : Int
  lasts : List V
  ct : List (Option (Int × Int))
  tried : List Int
  clr : List Int
  broken : List Bool
  left : Option Int
  log : List (Str × Int × Bool)
def Pc.toC (q : Pc) (st : List V) : Cs := ⟨q.b, q.p, q.m, q.lasts, st, q.tried, q.clr, q.broken, q.left, q.log⟩
/-- what a chip's list of pages bears -/
def StfAt (H : Hp) (st : List V) (ct : List (Option (Int × Int))) : Prop := st.length = ct.length ∧ ∀ i : Nat, i < st.length → (ct.getD i none = none ∧ st.getD i .non = .non) ∨ ∃ (a : Addr) (m x : Int), ct.getD i none = some (m, x) ∧ st.getD i .non = .ref a ∧ H a = some (.tup [.int m, .int x])
theorem StfAt.mono {H H' : Hp} {st : List V} {ct : List (Option (Int × Int))} (s : TupS H H') (h : StfAt H st ct) : StfAt H' st ct := ⟨h.1, fun i hi => (h.2 i hi).imp id fun ⟨a, m, x, h1, h2, h3⟩ => ⟨a, m, x, h1, h2, s _ _ h3⟩⟩
def ChipP (C : Addr) (H : Hp) (r : Addr) (F : CF) (q : Pc) : Prop := ∃ st, ChipAt C H r F (q.toC st) ∧ StfAt H st q.ct
theorem ChipP.mono {C : Addr} {H H' : Hp} {r : Addr} {F : CF} {q : Pc} (s : Same H H') (h : ChipP C H r F q) : ChipP C H' r F q := by
  obtain ⟨st, h1, h2⟩ := h
  exact ⟨st, h1.mono s, h2.mono (TupS.of s)⟩
theorem ChipP.off {C : Addr} {H H' : Hp} {r : Addr} {F : CF} {q : Pc} {S : List Addr} (h : ChipP C H r F q) (s : Off S H H') (n : ∀ a, a ∈ F.all r → a ∉ S) (ht : TupS H H') : ChipP C H' r F q := by
  obtain ⟨st, h1, h2⟩ := h
  exact ⟨st, h1.off s n ht, h2.mono ht⟩
theorem ChipP.there {C : Addr} {H : Hp} {r : Addr} {F : CF} {q : Pc} (h : ChipP C H r F q) : ∀ a ∈ F.all r, ∃ o, H a = some o ∧ ∀ xs, o ≠ .tup xs := by
  obtain ⟨st, h1, _⟩ := h
  exact h1.there
def Pc.dark (q : Pc) : Bool := decide (q.left = some 0)
def Pc.well (q : Pc) (n : Nat) (worn : Bool) : Bool := !worn && !decide (V.int (q.tried.getD n 0) = q.lasts.getD n .non)
def Pc.tick (q : Pc) (n : Nat) (well : Bool) : Pc := { q with left := q.left.map (· - 1), tried := q.tried.set n (q.tried.getD n 0 + 1), broken := q.broken.set n (!well) }
def Pc.said (q : Pc) (n : Nat) (w : Bool) (e : Str × Int) : Pc := { q.tick n w with log := q.log ++ [(e.1, e.2, w)] }
/-- refusals -/
inductive Rf
  | dark
  | failed (b : Int)
  | noroom
  | wornout
  | full
  | nosheet
  | novalue
  | stuck
/-- a put on a clear page of a good block -/
def Pc.putP (q : Pc) (pg : Int) (e : Int × Int) : Option Rf × Pc :=
  if q.dark = true then (some .dark, q) else if q.well (pg / q.p).toNat false = true then (none, { q.said (pg / q.p).toNat true ("put", pg) with ct := q.ct.set pg.toNat (some e) }) else (some (.failed (pg / q.p)), q.said (pg / q.p).toNat false ("put", pg))
def blankP (l : List (Option (Int × Int))) (s : Nat) : Nat → List (Option (Int × Int))
  | 0 => l
  | i + 1 => (blankP l s i).set (s + i) none
/-- a wipe of a block -/
def Pc.wipeP (q : Pc) (n : Int) : Option Rf × Pc :=
  if q.dark = true then (some .dark, q) else if q.broken.getD n.toNat false = true then (some (.failed n), q)
  else if q.well n.toNat (decide (q.clr.getD n.toNat 0 = q.m)) = true then (none, { q.said n.toNat true ("wipe", n) with clr := q.clr.set n.toNat (q.clr.getD n.toNat 0 + 1), ct := blankP q.ct (n.toNat * q.p.toNat) q.p.toNat })
  else (some (.failed n), q.said n.toNat false ("wipe", n))
def goodQ (q : Pc) : List Nat := (List.range q.b.toNat).filter fun n => !q.broken.getD n false
def partQ (q : Pc) (k : Bk) : Option Nat := (goodQ q).find? fun n => decide (0 < k.fil.getD n 0) && decide (k.fil.getD n 0 < q.p)
def freeQ (q : Pc) (k : Bk) : List (Int × Int) := ((goodQ q).filter fun n => decide (k.fil.getD n 0 = 0)).map fun n : Nat => (q.clr.getD n 0, (n : Int))
def nextQ (q : Pc) (k : Bk) : Option Nat := match partQ q k with
  | some n => some n
  | none => (sortP (freeQ q k)).head?.map fun e => e.2.toNat
def spotQ (q : Pc) (k : Bk) : Option Int := (nextQ q k).map fun n : Nat => (n : Int) * q.p + k.fil.getD n 0
/-- the rules: by a way to go ahead, a window, a list that is followed -/
inductive Rl
  | by (g : Int → Int → Tal → Tal → Bool)
  | window (n : Int)
  | follow (l : List Int) (i : Nat)
structure Mv where
  nm : Int
  pg : Int
  to : Int
structure Pap where
  why : Str
  some : List Tal
  blk : Int
  mv : List Mv
  well : Bool
structure St where
  q : Pc
  k : Bk
  pp : List Pap
  ru : Rl
inductive Kd
  | plain
  | store
  | even
  | sure
def resvQ : Kd → Ts → Pc → Int
  | .plain, _, _ => 0
  | .store, t, _ => 1 + t.i
  | .even, t, _ => 1 + t.i
  | .sure, t, q => 1 + t.i - (t.b - ((goodQ q).length : Int))
def wornQ (t : Ts) (q : Pc) : Bool := decide (t.i < t.b - ((goodQ q).length : Int))
def readyQ (kd : Kd) (t : Ts) (q : Pc) (k : Bk) : Bool := match partQ q k with
  | none => decide (resvQ kd t q < ((freeQ q k).length : Int))
  | some _ => decide (resvQ kd t q ≤ ((freeQ q k).length : Int))
def spaceQ (kd : Kd) (t : Ts) (q : Pc) (k : Bk) : Int := if resvQ kd t q ≤ ((freeQ q k).length : Int) then t.p else match partQ q k with
  | none => 0
  | some n => t.p - k.fil.getD n 0
def tallyQ (q : Pc) (k : Bk) (n : Nat) : Tal := ⟨n, k.live.getD n 0, q.clr.getD n 0, k.born.getD n 0⟩
def fullQ (kd : Kd) (t : Ts) (q : Pc) (k : Bk) : List Tal := ((goodQ q).filter fun n => decide (k.fil.getD n 0 = t.p) && decide (k.live.getD n 0 ≤ spaceQ kd t q k)).map (tallyQ q k)
def clrsQ (q : Pc) : List Int := (goodQ q).map fun n : Nat => q.clr.getD n 0
def leastQ (q : Pc) : Int := minZ 0 (clrsQ q)
def sparedQ (kd : Kd) (t : Ts) (q : Pc) (k : Bk) : List Tal := (fullQ kd t q k).filter fun u => decide (u.c < leastQ q + t.z)
def optsQ : Kd → Ts → Pc → Bk → List Tal
  | .plain, _, _, _ => []
  | .store, t, q, k => (fullQ .store t q k).filter fun u => decide (u.l < t.p)
  | .even, t, q, k => (sparedQ .even t q k).filter fun u => decide (u.l < t.p)
  | .sure, t, q, k => (sparedQ .sure t q k).filter fun u => decide (u.l < t.p)
def otherQ : Kd → Ts → Pc → Bk → Option Int
  | .plain, _, _, _ => none
  | .store, _, _, _ => none
  | .even, t, q, k => match sparedQ .even t q k with
    | [] => none
    | u :: us => some (pickL (fun x y => decide (x.c < y.c)) u us).b
  | .sure, t, q, k => match sparedQ .sure t q k with
    | [] => none
    | u :: us => some (pickL (fun x y => decide (x.c < y.c)) u us).b
def Rl.choose (R : Rl) (ts : List Tal) (pages now : Int) : Int × Rl := match R with
  | .by g => ((pick (g pages now) ts).b, .by g)
  | .window n => ((pick (fun t u => decide (t.l < u.l)) (ts.filter fun t => decide ((t.o, t.b) ∈ (sortP (ts.map fun t => (t.o, t.b))).take n.toNat))).b, .window n)
  | .follow l i => (match l[i]? with
    | none => (ts.headD ⟨0, 0, 0, 0⟩).b
    | some b => if (ts.any fun t => decide (t.b = b)) = true then b else (ts.headD ⟨0, 0, 0, 0⟩).b, .follow l (i + 1))
/-- why a block is cleared, and which; the rule behind -/
def choiceQ (kd : Kd) (t : Ts) (s : St) : Option (Str × Int) × Rl := match optsQ kd t s.q s.k with
  | [] => ((otherQ kd t s.q s.k).map fun b => ("even", b), s.ru)
  | u :: us => (some ("rule", (s.ru.choose (u :: us) t.p s.k.stamp).1), (s.ru.choose (u :: us) t.p s.k.stamp).2)
def setDown (s : St) (n v : Int) : Except Rf Int × St := match spotQ s.q s.k with
  | none => (.error .noroom, s)
  | some pg => match s.q.putP pg (mk s.k.stamp n, v) with
    | (none, q') => (.ok pg, { s with q := q', k := s.k.note pg n })
    | (some e, q') => (.error e, { s with q := q' })
def laySure (t : Ts) : Nat → St → Int → Int → Except Rf Int × St
  | 0, s, _, _ => (.error .stuck, s)
  | f + 1, s, n, v => match setDown s n v with
    | (.error (.failed b), s') => if wornQ t s'.q = true then (.error .wornout, s') else laySure t f s' n v
    | r => r
def layQ (kd : Kd) (t : Ts) (s : St) (n v : Int) : Except Rf Int × St := match kd with
  | .sure => laySure t 17 s n v
  | _ => setDown s n v
def liveQ (k : Bk) (n : Int) : List (Int × Int) := ((List.range k.p.toNat).map fun j : Nat => n * k.p + (j : Int)).filterMap fun pg => match k.nm.getD pg.toNat .non with
  | .int m => some (pg, m)
  | _ => none
def valueQ (s : St) (pg n : Int) : Int := if n = 64 then bitsI (heldL s.k) else ((s.q.ct.getD pg.toNat none).getD (0, 0)).2
def movedQ (kd : Kd) (t : Ts) : List (Int × Int) → St → Except Rf (List Mv) × St
  | [], s => (.ok [], s)
  | (pg, n) :: r, s => if n ≠ 64 ∧ s.q.dark = true then (.error .dark, s) else match layQ kd t s n (valueQ s pg n) with
    | (.error e, s') => (.error e, s')
    | (.ok to, s') => match movedQ kd t r s' with
      | (.error e, s'') => (.error e, s'')
      | (.ok l, s'') => (.ok (⟨n, pg, to⟩ :: l), s'')
def Bk.empt (k : Bk) (n : Int) : Bk := { k with fil := k.fil.set n.toNat 0, born := k.born.set n.toNat 0 }
def wipedQ (kd : Kd) (t : Ts) (s : St) (n : Int) : Except Rf Bool × St := match s.q.wipeP n with
  | (none, q') => (.ok true, { s with q := q', k := s.k.empt n })
  | (some (.failed b), q') => match kd with
    | .sure => if wornQ t q' = true then (.error .wornout, { s with q := q' }) else (.ok false, { s with q := q' })
    | _ => (.error (.failed b), { s with q := q' })
  | (some e, q') => (.error e, { s with q := q' })
def roomQ (kd : Kd) (t : Ts) (s : St) : Except Rf Pap × St := match choiceQ kd t s with
  | (none, ru') => (.error .noroom, { s with ru := ru' })
  | (some (why, b), ru') => match movedQ kd t (liveQ s.k b) { s with ru := ru' } with
    | (.error e, s') => (.error e, s')
    | (.ok mv, s') => match wipedQ kd t s' b with
      | (.error e, s'') => (.error e, s'')
      | (.ok w, s'') => (.ok ⟨why, optsQ kd t s.q s.k, b, mv, w⟩, { s'' with pp := s''.pp ++ [⟨why, optsQ kd t s.q s.k, b, mv, w⟩] })
def roomsQ (kd : Kd) (t : Ts) : Nat → St → Except Rf Unit × St
  | 0, s => (.error .stuck, s)
  | f + 1, s => if readyQ kd t s.q s.k = true then (.ok (), s) else match roomQ kd t s with
    | (.error e, s') => (.error e, s')
    | (.ok _, s') => roomsQ kd t f s'
def mkReadyQ (kd : Kd) (t : Ts) (f : Nat) (s : St) : Except Rf Unit × St := match kd with
  | .plain => if readyQ .plain t s.q s.k = true then (.ok (), s) else (.error .noroom, s)
  | .sure => if wornQ t s.q = true then (.error .wornout, s) else roomsQ .sure t f s
  | kd => roomsQ kd t f s
/-- a writing of a sheet that is one, with a value that is one -/
def writeQ (kd : Kd) (t : Ts) (f : Nat) (s : St) (n v : Int) : Except Rf Int × St :=
  if getI s.k.wh n = none ∧ t.h ≤ ((heldL s.k).length : Int) then (.error .full, s) else match mkReadyQ kd t f s with
    | (.error e, s') => (.error e, s')
    | (.ok _, s') => layQ kd t s' n v
/-! ### what a chip and a book are like together -/
structure Wf (q : Pc) (k : Bk) : Prop where
  kb : k.b = q.b
  kp : k.p = q.p
  ctl : (q.ct.length : Int) = q.b * q.p
  bk : BkOk k
  fil : ∀ n : Nat, 0 ≤ k.fil.getD n 0 ∧ k.fil.getD n 0 ≤ k.p
  clear : ∀ n j : Nat, n < q.b.toNat → j < q.p.toNat → k.fil.getD n 0 ≤ (j : Int) → q.ct.getD (n * q.p.toNat + j) none = none
  keys : (k.wh.map (·.1)).Nodup
  rng : ∀ e ∈ k.wh, 0 ≤ e.1 ∧ e.1 ≤ 64
  own : ∀ nm pg, getI k.wh nm = some pg → (∃ e, q.ct.getD pg.toNat none = some e) ∧ k.nm.getD pg.toNat .non = .int nm
  nms : ∀ pg : Nat, k.nm.getD pg .non = .non ∨ ∃ nm : Int, k.nm.getD pg .non = .int nm ∧ getI k.wh nm = some (pg : Int)
  lv : ∀ n : Nat, n < q.b.toNat → k.live.getD n 0 = ((k.wh.filter fun e => decide (e.2 / k.p = (n : Int))).length : Int)
  bn : ∀ n : Nat, 0 ≤ k.born.getD n 0 ∧ k.born.getD n 0 < k.stamp
  cb : ∀ n : Nat, 0 ≤ q.clr.getD n 0 ∧ q.clr.getD n 0 ≤ (q.log.length : Int)
theorem Wf.chip {q q' : Pc} {k : Bk} (h : Wf q k) (e1 : q'.b = q.b) (e2 : q'.p = q.p) (e3 : q'.ct = q.ct) (e4 : q'.clr = q.clr) (e5 : q.log.length ≤ q'.log.length) : Wf q' k :=
  ⟨h.kb.trans e1.symm, h.kp.trans e2.symm, by rw [e1, e2, e3]; exact h.ctl, h.bk, h.fil, by rw [e1, e2, e3]; exact h.clear, h.keys, h.rng, by rw [e3]; exact h.own, h.nms, by rw [e1]; exact h.lv, h.bn, fun n => by rw [e4]; have := h.cb n; omega⟩
theorem Wf.said {q : Pc} {k : Bk} (h : Wf q k) (n : Nat) (w : Bool) (e : Str × Int) : Wf (q.said n w e) k := h.chip rfl rfl rfl rfl (by show _ ≤ (q.log ++ [_]).length; rw [List.length_append]; omega)
/-- a name's row taken out: how many are left in a block -/
theorem drop_cnt {f : Int × Int → Bool} {n x : Int} : ∀ {ps : List (Int × Int)}, (ps.map (·.1)).Nodup → getI ps n = some x → (((dropI ps n).filter f).length : Int) = ((ps.filter f).length : Int) - (if f (n, x) = true then 1 else 0)
  | [], _, h => by cases h
  | e :: ps, hn, h => by
    rw [List.map_cons, List.nodup_cons] at hn
    rw [getI_cons] at h
    by_cases he : e.1 = n
    · rw [if_pos he] at h
      injection h with h
      have e0 : e = (n, x) := by rw [← he, ← h]
      have e1 : dropI (e :: ps) n = ps := by
        unfold dropI
        rw [List.filter_cons_of_neg (by simp [he])]
        refine List.filter_eq_self.mpr fun y hy => decide_eq_true fun z => hn.1 (by rw [he, ← z]; exact List.mem_map.mpr ⟨_, hy, rfl⟩)
      rw [e1, List.filter_cons, e0]
      split
      · rw [List.length_cons]; omega
      · omega
    · rw [if_neg he] at h
      have e1 : dropI (e :: ps) n = e :: dropI ps n := by
        unfold dropI
        rw [List.filter_cons_of_pos (by simp [he])]
      have ih := drop_cnt (f := f) hn.2 h
      rw [e1, List.filter_cons, List.filter_cons]
      split
      · rw [List.length_cons, List.length_cons]; omega
      · exact ih
theorem drop_bn {k : Bk} {n : Int} : (k.drop n).born = k.born := by unfold Bk.drop; split <;> rfl
theorem drop_lv {k : Bk} {n : Int} : (k.drop n).live = match getI k.wh n with
    | none => k.live
    | some x => k.live.set (x / k.p).toNat (k.live.getD (x / k.p).toNat 0 - 1) := by
  unfold Bk.drop
  cases getI k.wh n <;> rfl
theorem drop_whE {k : Bk} {n : Int} : (k.drop n).wh = match getI k.wh n with
    | none => k.wh
    | some _ => dropI k.wh n := by
  unfold Bk.drop
  cases getI k.wh n <;> rfl
theorem note_whE {k : Bk} {pg n : Int} : (k.note pg n).wh = (k.drop n).wh ++ [(n, pg)] := by
  show putI (k.drop n).wh n pg = _
  unfold putI
  rw [if_neg]
  intro z
  obtain ⟨e, he, z⟩ := List.any_eq_true.mp z
  have h1 : getI (k.drop n).wh n = none := by rw [drop_wh, if_pos rfl]
  exact getI_key.mp h1 (List.mem_map.mpr ⟨e, he, of_decide_eq_true z⟩)
theorem Wf.whl {q : Pc} {k : Bk} (h : Wf q k) : k.wh.length ≤ 65 := by
  have := nodup_le (N := 65) h.keys fun x hx => by
    obtain ⟨e, he, rfl⟩ := List.mem_map.mp hx
    have := h.rng e he
    omega
  rw [List.length_map] at this
  exact this
theorem Wf.drop {q : Pc} {k : Bk} (h : Wf q k) (n : Int) : Wf q (k.drop n) := by
  refine ⟨drop_b.trans h.kb, drop_p.trans h.kp, h.ctl, h.bk.drop n, by rw [drop_fil, drop_p]; exact h.fil, by rw [drop_fil]; exact h.clear, drop_whn h.keys, fun e he => h.rng e (drop_whm e he), fun nm pg hg => ?_, fun pg => ?_, fun m hm => ?_, fun m => by rw [drop_bn, drop_st]; exact h.bn m, h.cb⟩
  rotate_left 2
  · rw [drop_lv, drop_whE, drop_p]
    cases hx : getI k.wh n with
    | none => exact h.lv m hm
    | some x =>
      dsimp only
      have hw := h.bk.wh _ (getI_mem hx)
      dsimp only at hw
      have hp := h.bk.p
      have hb0 : 0 ≤ x / k.p := Int.ediv_nonneg hw.1 (by omega)
      have hb1 : x / k.p < k.b := Int.ediv_lt_of_lt_mul (by omega) hw.2
      have hl := h.bk.live
      rw [getD_set (by omega), drop_cnt h.keys hx, ← h.lv m hm]
      by_cases em : m = (x / k.p).toNat
      · rw [if_pos em, if_pos (decide_eq_true (show x / k.p = (m : Int) by omega)), em]
      · rw [if_neg em, if_neg (fun z => em (by have := of_decide_eq_true z; dsimp only at this; omega))]
        omega
  · rw [drop_wh] at hg
    split at hg
    · cases hg
    · rename_i hne
      obtain ⟨h1, h2⟩ := h.own nm pg hg
      refine ⟨h1, ?_⟩
      rw [drop_nm]
      split
      · exact h2
      · rename_i x hx
        rw [getD_set', if_neg]
        · exact h2
        · rintro ⟨e, _⟩
          have := (h.own n x hx).2
          rw [← e, h2] at this
          injection this with this
          exact hne this
  · rw [drop_nm]
    split
    · rename_i hx
      rcases h.nms pg with z | ⟨nm, z1, z2⟩
      · exact .inl z
      · refine .inr ⟨nm, z1, ?_⟩
        rw [drop_wh, if_neg (fun e => by rw [e, hx] at z2; cases z2)]
        exact z2
    · rename_i x hx
      rw [getD_set']
      split
      · exact .inl rfl
      · rename_i hne
        rcases h.nms pg with z | ⟨nm, z1, z2⟩
        · exact .inl z
        · refine .inr ⟨nm, z1, ?_⟩
          rw [drop_wh, if_neg (fun e => ?_)]
          · exact z2
          · rw [e, hx] at z2
            injection z2 with z2
            have hl := (h.bk.wh _ (getI_mem hx)).2
            have h0 := (h.bk.wh _ (getI_mem hx)).1
            have hn := h.bk.nm
            dsimp only at hl h0
            exact hne ⟨by omega, by omega⟩
/-- where a page lies -/
theorem page_at {n : Nat} {p x : Int} (hp : 1 ≤ p) (h0 : 0 ≤ x) (h1 : x < p) : (((n : Int) * p + x) / p = (n : Int)) ∧ ((n : Int) * p + x).toNat = n * p.toNat + x.toNat := by
  constructor
  · rw [Int.add_comm, Int.add_mul_ediv_right _ _ (by omega), Int.ediv_eq_zero_of_lt h0 h1, Int.zero_add]
  · obtain ⟨m, rfl⟩ := Int.eq_ofNat_of_zero_le (show 0 ≤ p by omega)
    obtain ⟨y, rfl⟩ := Int.eq_ofNat_of_zero_le h0
    simp only [Int.toNat_natCast]
    rw [← Int.natCast_mul, ← Int.natCast_add, Int.toNat_natCast]
theorem place_inj {p n m i j : Nat} (hi : i < p) (hj : j < p) (e : n * p + i = m * p + j) : n = m ∧ i = j := by
  have h1 : n = m := by
    have a : (n * p + i) / p = n := by rw [Nat.add_comm, Nat.add_mul_div_right _ _ (by omega), Nat.div_eq_of_lt hi, Nat.zero_add]
    have b : (m * p + j) / p = m := by rw [Nat.add_comm, Nat.add_mul_div_right _ _ (by omega), Nat.div_eq_of_lt hj, Nat.zero_add]
    rw [← a, ← b, e]
  subst h1
  exact ⟨rfl, by omega⟩
theorem freeQ_mem {q : Pc} {k : Bk} {e : Int × Int} (h : e ∈ sortP (freeQ q k)) : ∃ n : Nat, e = (q.clr.getD n 0, (n : Int)) ∧ n < q.b.toNat ∧ k.fil.getD n 0 = 0 ∧ q.broken.getD n false = false := by
  have h2 := (sortP_perm _).mem_iff.mp h
  unfold freeQ at h2
  obtain ⟨n, hn, rfl⟩ := List.mem_map.mp h2
  have hf := List.mem_filter.mp hn
  have hg := List.mem_filter.mp hf.1
  exact ⟨n, rfl, List.mem_range.mp hg.1, of_decide_eq_true hf.2, by simpa using hg.2⟩
theorem partQ_mem {q : Pc} {k : Bk} {n : Nat} (h : partQ q k = some n) : n < q.b.toNat ∧ 0 < k.fil.getD n 0 ∧ k.fil.getD n 0 < q.p ∧ q.broken.getD n false = false := by
  unfold partQ at h
  have h1 := List.find?_some h
  have h2 := List.mem_filter.mp (List.mem_of_find?_eq_some h)
  rw [Bool.and_eq_true] at h1
  exact ⟨List.mem_range.mp h2.1, of_decide_eq_true h1.1, of_decide_eq_true h1.2, by simpa using h2.2⟩
theorem nextQ_mem {q : Pc} {k : Bk} {n : Nat} (hp : 1 ≤ q.p) (h : nextQ q k = some n) : n < q.b.toNat ∧ 0 ≤ k.fil.getD n 0 ∧ k.fil.getD n 0 < q.p ∧ q.broken.getD n false = false := by
  unfold nextQ at h
  cases hpo : partQ q k with
  | some m =>
    rw [hpo] at h
    obtain rfl : m = n := by injection h
    obtain ⟨h1, h2, h3, h4⟩ := partQ_mem hpo
    exact ⟨h1, by omega, h3, h4⟩
  | none =>
    rw [hpo] at h
    cases hl : sortP (freeQ q k) with
    | nil => rw [hl] at h; cases h
    | cons e l =>
      obtain ⟨m, he, h1, h2, h3⟩ := freeQ_mem (show e ∈ sortP (freeQ q k) by rw [hl]; exact List.mem_cons_self)
      rw [hl, he] at h
      obtain rfl : m = n := by
        simp only [List.head?_cons, Option.map_some, Int.toNat_natCast] at h
        injection h
      exact ⟨h1, by omega, by omega, h3⟩
/-- the page that is put next: its block and place -/
structure Spot (q : Pc) (k : Bk) (pg : Int) (n : Nat) : Prop where
  next : nextQ q k = some n
  eq : pg = (n : Int) * q.p + k.fil.getD n 0
  lt : n < q.b.toNat
  f0 : 0 ≤ k.fil.getD n 0
  f1 : k.fil.getD n 0 < q.p
  good : q.broken.getD n false = false
  blk : pg / q.p = (n : Int)
  nat : pg.toNat = n * q.p.toNat + (k.fil.getD n 0).toNat
  lo : 0 ≤ pg
  hi : pg < q.b * q.p
theorem spot_of {q : Pc} {k : Bk} {pg : Int} (hp : 1 ≤ q.p) (h : spotQ q k = some pg) : ∃ n, Spot q k pg n := by
  unfold spotQ at h
  cases hn : nextQ q k with
  | none => rw [hn] at h; cases h
  | some n =>
    rw [hn] at h
    have e : pg = (n : Int) * q.p + k.fil.getD n 0 := by injection h with h; exact h.symm
    obtain ⟨h1, h2, h3, h4⟩ := nextQ_mem hp hn
    obtain ⟨a1, a2⟩ := page_at (n := n) hp h2 h3
    have m0 : 0 ≤ (n : Int) * q.p := Int.mul_nonneg (by omega) (by omega)
    have m1 : (n : Int) * q.p ≤ (q.b - 1) * q.p := Int.mul_le_mul_of_nonneg_right (by omega) (by omega)
    have m2 : q.b * q.p = (q.b - 1) * q.p + q.p := by rw [Int.sub_mul, Int.one_mul]; omega
    exact ⟨n, hn, e, h1, h2, h3, h4, by rw [e]; exact a1, by rw [e]; exact a2, by omega, by omega⟩
theorem Wf.blank {q : Pc} {k : Bk} {pg : Int} {n : Nat} (h : Wf q k) (s : Spot q k pg n) : q.ct.getD pg.toNat none = none := by
  rw [s.nat]
  have := s.f0
  have := s.f1
  exact h.clear n _ s.lt (by omega) (by omega)
theorem Wf.put {q q' : Pc} {k : Bk} {pg nm : Int} {n : Nat} {e : Int × Int} (h : Wf q k) (s : Spot q k pg n) (hn : 0 ≤ nm ∧ nm ≤ 64) (hs : k.stamp + 1 < 10 ^ 40) (e1 : q'.b = q.b) (e2 : q'.p = q.p) (e3 : q'.ct = q.ct.set pg.toNat (some e)) (e4 : q'.clr = q.clr) (e5 : q.log.length ≤ q'.log.length) : Wf q' (k.note pg nm) := by
  have hkb := h.kb
  have hkp := h.kp
  have hpp := h.bk.p
  have hbb := h.bk.b
  have ekp : k.p.toNat = q.p.toNat := by rw [hkp]
  have hlt := s.lt
  have hfl : n < k.fil.length := by have := h.bk.fil; omega
  have hbk : (pg / k.p).toNat = n := by rw [hkp, s.blk, Int.toNat_natCast]
  have hctl : pg.toNat < q.ct.length := by have := h.ctl; have := s.lo; have := s.hi; omega
  have hnml : pg.toNat < (k.drop nm).nm.length := by have := (h.bk.drop nm).nm; rw [drop_b, drop_p, hkb, hkp] at this; have := s.lo; have := s.hi; omega
  have hblank := h.blank s
  refine ⟨by rw [note_bp.1, e1]; exact hkb, by rw [note_bp.2, e2]; exact hkp, by rw [e1, e2, e3, List.length_set]; exact h.ctl, h.bk.note s.lo (by rw [hkb, hkp]; exact s.hi) (by have := h.whl; omega) hs, fun m => ?_, fun m j hm hj hf => ?_, note_whn h.keys, note_whm (A := fun i => 0 ≤ i ∧ i ≤ 64) h.rng hn, fun i pg2 hg => ?_, fun pg2 => ?_, fun m hm => ?_, fun m => ?_, fun m => by rw [e4]; have := h.cb m; omega⟩
  rotate_left 4
  · have hd := h.drop nm
    rw [e1] at hm
    have h1 := hd.lv m hm
    rw [drop_p] at h1
    rw [note_whE, note_bp.2, List.filter_append, List.length_append]
    show ((k.drop nm).live.set (pg / k.p).toNat ((k.drop nm).live.getD (pg / k.p).toNat 0 + 1)).getD m 0 = _
    have hl := hd.bk.live
    rw [drop_b] at hl
    rw [hbk, getD_set (by omega)]
    have hpg : pg / k.p = (n : Int) := by rw [hkp]; exact s.blk
    by_cases em : m = n
    · subst em
      rw [if_pos rfl, List.filter_cons_of_pos (by rw [hpg]; simp), h1]
      simp
    · rw [if_neg em, List.filter_cons_of_neg (by rw [hpg]; simp; omega), h1]
      simp
  · have h1 := h.bn m
    have h2 := h.bk.st
    have e : (k.note pg nm).born.getD m 0 = k.born.getD m 0 ∨ (k.note pg nm).born.getD m 0 = k.stamp := by
      show (if (k.drop nm).fil.getD (pg / k.p).toNat 0 = 0 then (k.drop nm).born.set (pg / k.p).toNat (k.drop nm).stamp else (k.drop nm).born).getD m 0 = _ ∨ (if (k.drop nm).fil.getD (pg / k.p).toNat 0 = 0 then (k.drop nm).born.set (pg / k.p).toNat (k.drop nm).stamp else (k.drop nm).born).getD m 0 = _
      rw [drop_bn, drop_st]
      split
      · rw [getD_set']
        split
        · exact .inr rfl
        · exact .inl rfl
      · exact .inl rfl
    rw [note_st]
    omega
  · rw [note_fil, hbk, getD_set hfl, note_bp.2]
    have := s.f0
    have := s.f1
    split
    · omega
    · exact h.fil m
  · rw [e1] at hm
    rw [e2] at hj
    rw [e3, e2, getD_set']
    rw [note_fil, hbk, getD_set hfl] at hf
    by_cases em : m = n
    · subst em
      rw [if_pos rfl] at hf
      have := s.f0
      rw [if_neg (fun z => by have := z.1; rw [s.nat] at this; omega)]
      exact h.clear m j hm hj (by omega)
    · rw [if_neg em] at hf
      rw [if_neg (fun z => by
        have z := z.1
        rw [s.nat] at z
        have := s.f1
        have := s.f0
        exact em (place_inj hj (by omega) z).1)]
      exact h.clear m j hm hj hf
  · rw [note_wh] at hg
    by_cases ei : i = nm
    · rw [if_pos ei] at hg
      injection hg with hg
      subst hg ei
      exact ⟨⟨e, by rw [e3, getD_set hctl, if_pos rfl]⟩, by rw [note_nm, getD_set hnml, if_pos rfl]⟩
    · rw [if_neg ei] at hg
      have hd : getI (k.drop nm).wh i = some pg2 := by rw [drop_wh, if_neg ei]; exact hg
      obtain ⟨⟨x, hx⟩, hy⟩ := (h.drop nm).own i pg2 hd
      have hne : pg2.toNat ≠ pg.toNat := fun z => by rw [z, hblank] at hx; cases hx
      exact ⟨⟨x, by rw [e3, getD_set hctl, if_neg hne]; exact hx⟩, by rw [note_nm, getD_set hnml, if_neg hne]; exact hy⟩
  · rw [note_nm, getD_set hnml]
    split
    · rename_i ep
      refine .inr ⟨nm, rfl, ?_⟩
      rw [note_wh, if_pos rfl, ep]
      have := s.lo
      congr 1
      omega
    · rename_i ep
      rcases (h.drop nm).nms pg2 with z | ⟨i, z1, z2⟩
      · exact .inl z
      · refine .inr ⟨i, z1, ?_⟩
        rw [drop_wh] at z2
        rw [note_wh]
        split at z2
        · cases z2
        · rename_i hne
          rw [if_neg hne]
          exact z2
theorem blankP_len (l : List (Option (Int × Int))) (s : Nat) : ∀ i, (blankP l s i).length = l.length
  | 0 => rfl
  | i + 1 => by
    show ((blankP l s i).set _ _).length = _
    rw [List.length_set, blankP_len l s i]
theorem blankP_get (l : List (Option (Int × Int))) (s : Nat) : ∀ i m, (blankP l s i).getD m none = if s ≤ m ∧ m < s + i then none else l.getD m none
  | 0, m => by rw [if_neg (by omega)]; rfl
  | i + 1, m => by
    show ((blankP l s i).set _ _).getD m none = _
    rw [getD_set', blankP_get l s i m]
    by_cases h : m = s + i
    · rw [if_pos (show s ≤ m ∧ m < s + (i + 1) by omega)]
      split
      · rfl
      · rename_i hz
        have : ¬ s + i < (blankP l s i).length := fun y => hz ⟨h, y⟩
        rw [blankP_len] at this
        rw [if_neg (by omega), List.getD_eq_getElem?_getD, List.getElem?_eq_none (by omega)]
        rfl
    · rw [if_neg (fun z => h z.1)]
      by_cases h2 : s ≤ m ∧ m < s + i
      · rw [if_pos h2, if_pos (by omega)]
      · rw [if_neg h2, if_neg (by omega)]
theorem Wf.wipe {q q' : Pc} {k : Bk} {n : Nat} (h : Wf q k) (hn : n < q.b.toNat) (hno : ∀ nm pg, getI k.wh nm = some pg → pg / k.p ≠ (n : Int)) (e1 : q'.b = q.b) (e2 : q'.p = q.p) (e3 : q'.ct = blankP q.ct (n * q.p.toNat) q.p.toNat) (e4 : q'.clr = q.clr.set n (q.clr.getD n 0 + 1)) (e5 : q'.log.length = q.log.length + 1) : Wf q' (k.empt n) := by
  have hkp := h.kp
  have hpp := h.bk.p
  have hfl : n < k.fil.length := by have := h.bk.fil; have := h.kb; omega
  refine ⟨h.kb.trans e1.symm, h.kp.trans e2.symm, by rw [e1, e2, e3, blankP_len]; exact h.ctl, ⟨h.bk.b, h.bk.p, h.bk.nm, h.bk.live, ?_, ?_, h.bk.wh, h.bk.whl, h.bk.st⟩, fun m => ?_, fun m j hm hj hf => ?_, h.keys, h.rng, fun i pg hg => ?_, h.nms, by rw [e1]; exact h.lv, fun m => ?_, fun m => ?_⟩
  rotate_left 5
  · show 0 ≤ (k.born.set (n : Int).toNat 0).getD m 0 ∧ (k.born.set (n : Int).toNat 0).getD m 0 < k.stamp
    have h1 := h.bn m
    have h2 := h.bn n
    rw [getD_set']
    split <;> omega
  · rw [e4, e5, getD_set']
    have h1 := h.cb m
    have h2 := h.cb n
    split <;> omega
  · show ((k.fil.set _ _).length : Int) = _
    rw [List.length_set]; exact h.bk.fil
  · show ((k.born.set _ _).length : Int) = _
    rw [List.length_set]; exact h.bk.born
  · show 0 ≤ (k.fil.set (n : Int).toNat 0).getD m 0 ∧ (k.fil.set (n : Int).toNat 0).getD m 0 ≤ k.p
    rw [Int.toNat_natCast, getD_set hfl]
    split
    · omega
    · exact h.fil m
  · rw [e1] at hm
    rw [e2] at hj
    rw [e3, e2, blankP_get]
    split
    · rfl
    · rename_i hz
      have em : m ≠ n := fun z => hz (by subst z; omega)
      have hf' : (k.fil.set (n : Int).toNat 0).getD m 0 ≤ (j : Int) := hf
      rw [Int.toNat_natCast, getD_set hfl, if_neg em] at hf'
      exact h.clear m j hm hj hf'
  · obtain ⟨⟨x, hx⟩, hy⟩ := h.own i pg hg
    refine ⟨⟨x, ?_⟩, hy⟩
    have hw := h.bk.wh _ (getI_mem hg)
    dsimp only at hw
    rw [e3, blankP_get, if_neg]
    · exact hx
    · intro z
      refine hno i pg hg ?_
      have ep : k.p = ((q.p.toNat : Nat) : Int) := by omega
      have epg : pg = ((pg.toNat : Nat) : Int) := by omega
      rw [ep, epg, ← Int.natCast_ediv]
      congr 1
      have hp0 : 0 < q.p.toNat := by omega
      have e5 : pg.toNat = (pg.toNat - n * q.p.toNat) + n * q.p.toNat := by omega
      rw [e5, Nat.add_mul_div_right _ _ hp0, Nat.div_eq_of_lt (by omega), Nat.zero_add]
theorem Wf.new {b p m : Int} {l : List V} (hb : 2 ≤ b ∧ b ≤ 16) (hp : 1 ≤ p ∧ p ≤ 16) {q : Pc} (e1 : q.b = b) (e2 : q.p = p) (e3 : q.ct = List.replicate (b * p).toNat none) (e4 : ∀ n : Nat, 0 ≤ q.clr.getD n 0 ∧ q.clr.getD n 0 ≤ (q.log.length : Int)) : Wf q (Bk.new b p) := by
  have rep : ∀ {α : Type} (x : α) (a n : Nat), (List.replicate a x).getD n x = x := fun x a n => by
    rw [List.getD_eq_getElem?_getD, List.getElem?_replicate]
    split <;> rfl
  have hbp : 0 ≤ b * p := Int.mul_nonneg (by omega) (by omega)
  refine ⟨e1.symm, e2.symm, by rw [e1, e2, e3, List.length_replicate]; omega, Bk.new_ok hb hp, fun n => ?_, fun n j _ _ _ => by rw [e3]; exact rep _ _ _, .nil, fun e he => (by cases he), fun nm pg hg => (by cases hg), fun pg => .inl (rep _ _ _), fun n _ => rep _ _ _, fun n => ?_, e4⟩
  rotate_left
  · show 0 ≤ (List.replicate b.toNat (0 : Int)).getD n 0 ∧ (List.replicate b.toNat (0 : Int)).getD n 0 < 1
    rw [rep]
    omega
  show 0 ≤ (List.replicate b.toNat (0 : Int)).getD n 0 ∧ (List.replicate b.toNat (0 : Int)).getD n 0 ≤ p
  rw [rep]
  omega
/-- how many live pages a block can have -/
theorem Wf.live_le {q : Pc} {k : Bk} (h : Wf q k) {n : Nat} (hn : n < q.b.toNat) : 0 ≤ k.live.getD n 0 ∧ k.live.getD n 0 ≤ k.p := by
  rw [h.lv n hn]
  have hp := h.bk.p
  refine ⟨Int.natCast_nonneg _, ?_⟩
  have hnd : (((k.wh.filter fun e => decide (e.2 / k.p = (n : Int)))).map fun e => e.2 - (n : Int) * k.p).Nodup := by
    refine List.pairwise_map.mpr (List.Pairwise.imp_of_mem (fun {x y} hx hy (e : x ≠ y) z => ?_) ((List.Pairwise.of_map (fun e : Int × Int => e.1) (fun a b (h : a.1 ≠ b.1) (z : a = b) => h (by rw [z])) h.keys).filter _))
    have hx1 := (List.mem_filter.mp hx).1
    have hy1 := (List.mem_filter.mp hy).1
    have gx := getI_of_mem h.keys (n := x.1) (x := x.2) hx1
    have gy := getI_of_mem h.keys (n := y.1) (x := y.2) hy1
    have e2 : x.2 = y.2 := by omega
    have a := (h.own _ _ gx).2
    have b := (h.own _ _ gy).2
    rw [e2, b] at a
    injection a with a
    exact e (Prod.ext a.symm e2)
  have := nodup_le (N := k.p.toNat) hnd fun x hx => by
    obtain ⟨e, he, rfl⟩ := List.mem_map.mp hx
    have h1 := of_decide_eq_true (List.mem_filter.mp he).2
    have h2 := Int.emod_nonneg e.2 (show k.p ≠ 0 by omega)
    have h3 := Int.emod_lt_of_pos e.2 (show 0 < k.p by omega)
    have h4 := Int.mul_ediv_add_emod e.2 k.p
    rw [h1, Int.mul_comm] at h4
    omega
  rw [List.length_map] at this
  omega
/-! ### rules as objects: by a way to go ahead (Rule, Fewest, Eldest, Worth), a window, a list that is followed -/
def Rl.kind : Rl → Nat
  | .by _ => 0
  | .window _ => 1
  | .follow _ _ => 2
/-- what such an object of the class C is like -/
def RlOb (P : Program) (w : World) (K : PySem.W.Frag) (mg : Str → Option Value) (base : Heap) (C : Addr) (H : Hp) (rf : List Addr) (r : Addr) (R : Rl) : Prop := match R with
  | .by g => RuleOb P w K mg base 17 g H rf r ∧ ∃ dx fs, H r = some (.ins C dx fs)
  | .window n => rf = [r] ∧ (1 ≤ n ∧ n ≤ 16) ∧ ∃ dx, H r = some (.ins C dx [("many", .int n)])
  | .follow l i => ∃ bl, rf = [r, bl] ∧ ∃ dx, H r = some (.ins C dx [("blocks", .ref bl), ("asked", .int (i : Int))]) ∧ H bl = some (.lst (l.map V.int))
theorem RlOb.ins {C : Addr} {H : Hp} {rf : List Addr} {r : Addr} {R : Rl} (h : RlOb P w K mg base C H rf r R) : r ∈ rf ∧ ∃ dx fs, H r = some (.ins C dx fs) ∧ fs.lookup (Str.ofString "choose") = none := by
  cases R with
  | «by» g =>
    obtain ⟨⟨m, _, C', dx', fs', _, e, _, l, _⟩, dx, fs, h⟩ := h
    rw [e] at h
    cases h
    exact ⟨m, dx', fs', e, l⟩
  | window n =>
    obtain ⟨e, _, dx, h⟩ := h
    exact ⟨by rw [e]; exact List.mem_cons_self, dx, _, h, rfl⟩
  | follow l i =>
    obtain ⟨bl, e, dx, h, _⟩ := h
    exact ⟨by rw [e]; exact List.mem_cons_self, dx, _, h, rfl⟩
theorem RlOb.there {C : Addr} {H : Hp} {rf : List Addr} {r : Addr} {R : Rl} (h : RlOb P w K mg base C H rf r R) : ∀ a ∈ rf, ∃ o, H a = some o ∧ ∀ xs, o ≠ .tup xs := fun a ha => by
  cases R with
  | «by» g =>
    exact h.1.2.1 a ha
  | window n =>
    obtain ⟨e, _, dx, h⟩ := h
    rw [e, List.mem_singleton] at ha
    rw [ha]
    exact ⟨_, h, fun _ z => by cases z⟩
  | follow l i =>
    obtain ⟨bl, e, dx, h, h2⟩ := h
    rw [e] at ha
    rcases List.mem_cons.mp ha with z | z
    · rw [z]
      exact ⟨_, h, fun _ z => by cases z⟩
    · rw [List.mem_singleton.mp z]
      exact ⟨_, h2, fun _ z => by cases z⟩
theorem RlOb.off {C : Addr} {H H' : Hp} {rf : List Addr} {r : Addr} {R : Rl} {S : List Addr} (h : RlOb P w K mg base C H rf r R) (o : Off S H H') (n : ∀ a ∈ rf, a ∉ S) : RlOb P w K mg base C H' rf r R := by
  cases R with
  | «by» g =>
    obtain ⟨ob, dx, fs, h⟩ := h
    exact ⟨ob.keep fun a ha u e => o.at e (n a ha), dx, fs, o.at h (n r ob.1)⟩
  | window k =>
    obtain ⟨e, hk, dx, h⟩ := h
    exact ⟨e, hk, dx, o.at h (n r (by rw [e]; exact List.mem_cons_self))⟩
  | follow l i =>
    obtain ⟨bl, e, dx, h, h2⟩ := h
    exact ⟨bl, e, dx, o.at h (n r (by rw [e]; exact List.mem_cons_self)), o.at h2 (n bl (by rw [e]; exact List.mem_cons_of_mem _ List.mem_cons_self))⟩
/-- how it chooses -/
def spChR (P : Program) (w : World) (K : PySem.W.Frag) (mg : Str → Option Value) (base : Heap) (kind : Nat) (C : Addr) : Sp := fun vs H Q _ => ∃ (rf : List Addr) (r p : Addr) (R : Rl) (ts : List Tal) (pages now : Int), vs = [.ref r, .ref p, .int pages, .int now] ∧ R.kind = kind ∧ RlOb P w K mg base C H rf r R ∧ TL H p ts ∧ ts ≠ [] ∧ (∀ t ∈ ts, TOk pages now t) ∧ ts.length ≤ 16 ∧ PN pages now ∧
  ∀ H', Off rf H H' → RlOb P w K mg base C H' rf r (R.choose ts pages now).2 → Q (.int (R.choose ts pages now).1) H'
theorem kind_choose {R : Rl} {ts : List Tal} {pages now : Int} : (R.choose ts pages now).2.kind = R.kind := by cases R <;> rfl
def RlAt (P : Program) (w : World) (K : PySem.W.Frag) (mg : Str → Option Value) (base : Heap) (H : Hp) (rf : List Addr) (r : Addr) (R : Rl) : Prop := ∃ C, RlOb P w K mg base C H rf r R ∧ Cls K C ∧ MO P w K mg base (L2.CX P w) 18 C "choose" (spChR P w K mg base R.kind C)
theorem RlAt.there {H : Hp} {rf : List Addr} {r : Addr} {R : Rl} (h : RlAt P w K mg base H rf r R) : ∀ a ∈ rf, ∃ o, H a = some o ∧ ∀ xs, o ≠ .tup xs := by
  obtain ⟨C, h, _⟩ := h
  exact h.there
theorem RlAt.off {H H' : Hp} {rf : List Addr} {r : Addr} {R : Rl} {S : List Addr} (h : RlAt P w K mg base H rf r R) (o : Off S H H') (n : ∀ a ∈ rf, a ∉ S) (tt : TupS H H') : RlAt P w K mg base H' rf r R := by
  obtain ⟨C, h, c, m⟩ := h
  exact ⟨C, h.off o n, c, m⟩
theorem RlAt.mono {H H' : Hp} {rf : List Addr} {r : Addr} {R : Rl} (s : Same H H') (h : RlAt P w K mg base H rf r R) : RlAt P w K mg base H' rf r R :=
  h.off (S := []) (Off.of s) (fun _ _ z => by cases z) (TupS.of s)
theorem x_rChoose {H : Hp} {Q : VK} {E : XK} {σ : L2.St} {rf : List Addr} {r : Addr} {R : Rl} {t : TA} (hR : RlAt P w K mg base H rf r R) (h : ∀ C, RlOb P w K mg base C H rf r R → (∀ H' R', RlOb P w K mg base C H' rf r R' → R'.kind = R.kind → RlAt P w K mg base H' rf r R') → t σ H fun vs H2 => spChR P w K mg base R.kind C (.ref r :: vs) H2 Q E) : mtK P w K mg base (L2.CX P w) 20 "choose" E σ t Q (.ref r) H := by
  obtain ⟨C, ob, c, ⟨f, fd, ps, c1, c2, c3, c4⟩⟩ := hR
  obtain ⟨_, dx, fs, h1, h2⟩ := ob.ins
  exact x_mtK h1 ⟨⟨f, fd, ps, c1, c2, c3.mono (by decide), c4⟩⟩ h2 (h C ob fun H' R' hob hk => ⟨C, hob, c, by rw [hk]; exact ⟨⟨f, fd, ps, c1, c2, c3, c4⟩⟩⟩)
/-- a rule that chooses among what it is told -/
def Rl.ok : Rl → Prop
  | .window n => 1 ≤ n
  | _ => True
theorem RlAt.ok {H : Hp} {rf : List Addr} {r : Addr} {R : Rl} (h : RlAt P w K mg base H rf r R) : R.ok := by
  obtain ⟨C, h, _⟩ := h
  cases R with
  | «by» g => trivial
  | window _ => exact h.2.1.1
  | follow _ _ => trivial
/-- Rule's choose, of any class that has it -/
theorem chBy {C : Addr} {vs : List V} {H : Hp} {Q : VK} {E : XK} (h : spChR P w K mg base 0 C vs H Q E) : spChoose P w K mg base vs H Q E := by
  obtain ⟨rf, r, p, R, ts, pages, now, rfl, hk, hob, hT, hne, hok, hl, hpn, q⟩ := h
  cases R with
  | «by» g =>
    obtain ⟨ob, dx, fs, h1⟩ := hob
    exact ⟨r, p, pages, now, ts, g, rf, rfl, ob, hT, hne, hok, hl, hpn, fun H' hs => q H' (Off.of hs) ⟨ob.mono hs, dx, fs, hs _ _ h1⟩⟩
  | window _ => cases hk
  | follow _ _ => cases hk
/-! ### a store in a heap -/
structure PG where
  dx : Addr
  rc : Addr
  fc : CF
  rt : Addr
  dt : Addr
  rb : Addr
  fb : BF
  ru : Addr
  rf : List Addr
  pa : Addr
  fp : List Addr
def coreF (G : PG) : List (Str × V) := [("chip", .ref G.rc), ("terms", .ref G.rt), ("book", .ref G.rb)]
def restF (kd : Kd) (G : PG) : List (Str × V) := match kd with
  | .plain => []
  | .store => [("rule", .ref G.ru), ("papers", .ref G.pa)]
  | .even => [("rule", .ref G.ru), ("papers", .ref G.pa)]
  | .sure => [("rule", .ref G.ru), ("papers", .ref G.pa)]
def objF (kd : Kd) (G : PG) : List (Str × V) := coreF G ++ restF kd G
/-- the chip and the book -/
def PG.mut (G : PG) : List Addr := G.fc.all G.rc ++ G.fb.all G.rb
def PG.all (kd : Kd) (G : PG) : List Addr := G.mut ++ match kd with
  | .plain => []
  | .store => G.pa :: G.rf
  | .even => G.pa :: G.rf
  | .sure => G.pa :: G.rf
theorem PG.mut_all {kd : Kd} {G : PG} {a : Addr} (h : a ∈ G.mut) : a ∈ G.all kd := List.mem_append_left _ h
theorem PG.all_store {kd : Kd} {G : PG} (h : kd ≠ .plain) : G.all kd = G.mut ++ G.pa :: G.rf := by cases kd <;> first | rfl | exact absurd rfl h
theorem restF_store {kd : Kd} {G : PG} (h : kd ≠ .plain) : restF kd G = ([("rule", .ref G.ru), ("papers", .ref G.pa)] : List (Str × V)) := by cases kd <;> first | rfl | exact absurd rfl h
def kdOk : Kd → Prop
  | .plain => True
  | .store => True
  | .even => False
  | .sure => False
def resA (T : Txt K mg) : Kd → Addr
  | .plain => T.a_Plain_reserve
  | .store => T.a_Store_reserve
  | .even => T.a_Store_reserve
  | .sure => T.a_law
def layA (T : Txt K mg) : Kd → Addr
  | .plain => T.a_Plain_lay
  | .store => T.a_Plain_lay
  | .even => T.a_Plain_lay
  | .sure => T.a_law
def mkrA (T : Txt K mg) : Kd → Addr
  | .plain => T.a_Plain_make_ready
  | .store => T.a_Store_make_ready
  | .even => T.a_Store_make_ready
  | .sure => T.a_law
def optA (T : Txt K mg) : Kd → Addr
  | .plain => T.a_law
  | .store => T.a_Store_options
  | .even => T.a_law
  | .sure => T.a_law
def othA (T : Txt K mg) : Kd → Addr
  | .plain => T.a_law
  | .store => T.a_Store_otherwise
  | .even => T.a_law
  | .sure => T.a_law
def wipA (T : Txt K mg) : Kd → Addr
  | .plain => T.a_law
  | .store => T.a_Store_wiped
  | .even => T.a_Store_wiped
  | .sure => T.a_law
/-- what a class of stores is like -/
structure VS (T : Txt K mg) (kd : Kd) (C : Addr) : Prop where
  ok : kdOk kd
  cl : Cls K C
  n1 : NoAttr K C "chip"
  n2 : NoAttr K C "terms"
  n3 : NoAttr K C "book"
  n4 : kd ≠ .plain → NoAttr K C "rule"
  n5 : kd ≠ .plain → NoAttr K C "papers"
  good : Meth K C "good" T.a_Plain_good
  free : Meth K C "free" T.a_Plain_free
  part : Meth K C "part" T.a_Plain_part
  reserve : Meth K C "reserve" (resA T kd)
  ready : Meth K C "ready" T.a_Plain_ready
  spot : Meth K C "spot" T.a_Plain_spot
  set_down : Meth K C "set_down" T.a_Plain_set_down
  lay : Meth K C "lay" (layA T kd)
  make_ready : Meth K C "make_ready" (mkrA T kd)
  need_sheet : Meth K C "need_sheet" T.a_Plain_need_sheet
  held : Meth K C "held" T.a_Plain_held
  write : Meth K C "write" T.a_Plain_write
  read : Meth K C "read" T.a_Plain_read
  space : kd ≠ .plain → Meth K C "space" T.a_Store_space
  tally : kd ≠ .plain → Meth K C "tally" T.a_Store_tally
  full_ones : kd ≠ .plain → Meth K C "full_ones" T.a_Store_full_ones
  options : kd ≠ .plain → Meth K C "options" (optA T kd)
  otherwise : kd ≠ .plain → Meth K C "otherwise" (othA T kd)
  choice : kd ≠ .plain → Meth K C "choice" T.a_Store_choice
  value_for : kd ≠ .plain → Meth K C "value_for" T.a_Store_value_for
  moved : kd ≠ .plain → Meth K C "moved" T.a_Store_moved
  wiped : kd ≠ .plain → Meth K C "wiped" (wipA T kd)
  make_room : kd ≠ .plain → Meth K C "make_room" T.a_Store_make_room
  take : kd ≠ .plain → Meth K C "take" T.a_Store_take
/-- papers in a heap -/
def Mv.is (m : Mv) : List Int := [m.nm, m.pg, m.to]
def MvL (H : Hp) (p : Addr) (ms : List Mv) : Prop := ∃ vs, H p = some (.lst vs) ∧ TupL H vs (ms.map Mv.is)
def PapAt (H : Hp) (fp : List Addr) (v : V) (u : Pap) : Prop := ∃ a so mo, v = .ref a ∧ H a = some (.tup [.str u.why, .ref so, .int u.blk, .ref mo, .bl u.well]) ∧ TL H so u.some ∧ MvL H mo u.mv ∧ so ∈ fp ∧ mo ∈ fp
def PapsAt (H : Hp) (fp : List Addr) (p : Addr) (us : List Pap) : Prop := ∃ vs, H p = some (.lst vs) ∧ vs.length = us.length ∧ ∀ (i : Nat) v u, vs[i]? = some v → us[i]? = some u → PapAt H fp v u
theorem TL.at {H H' : Hp} {p : Addr} {ts : List Tal} (h : TL H p ts) (hp : ∀ o, H p = some o → H' p = some o) (s : TupS H H') : TL H' p ts := by
  obtain ⟨vs, e, h⟩ := h
  exact ⟨vs, hp _ e, h.mono s⟩
theorem MvL.at {H H' : Hp} {p : Addr} {ts : List Mv} (h : MvL H p ts) (hp : ∀ o, H p = some o → H' p = some o) (s : TupS H H') : MvL H' p ts := by
  obtain ⟨vs, e, h⟩ := h
  exact ⟨vs, hp _ e, h.mono s⟩
theorem PapAt.at {H H' : Hp} {fp fp' : List Addr} {v : V} {u : Pap} (h : PapAt H fp v u) (hp : ∀ a ∈ fp, ∀ o, H a = some o → H' a = some o) (s : TupS H H') (hs : ∀ a ∈ fp, a ∈ fp') : PapAt H' fp' v u := by
  obtain ⟨a, so, mo, e, e1, e2, e3, e4, e5⟩ := h
  exact ⟨a, so, mo, e, s _ _ e1, e2.at (hp _ e4) s, e3.at (hp _ e5) s, hs _ e4, hs _ e5⟩
theorem PapsAt.at {H H' : Hp} {fp : List Addr} {p : Addr} {us : List Pap} (h : PapsAt H fp p us) (h1 : ∀ o, H p = some o → H' p = some o) (hp : ∀ a ∈ fp, ∀ o, H a = some o → H' a = some o) (s : TupS H H') : PapsAt H' fp p us := by
  obtain ⟨vs, e, el, h⟩ := h
  exact ⟨vs, h1 _ e, el, fun i v u a b => (h i v u a b).at hp s fun _ z => z⟩
structure SP (P : Program) (w : World) (base : Heap) (T : Txt K mg) (kd : Kd) (C : Addr) (H : Hp) (r : Addr) (G : PG) (t : Ts) (s : St) : Prop where
  v : VS T kd C
  obj : H r = some (.ins C G.dx (objF kd G))
  chip : ChipP T.C_Chip H G.rc G.fc s.q
  terms : H G.rt = some (.ins T.C_Terms G.dt (termF t))
  book : BookAt T.C_Book H G.rb G.fb s.k
  rule : kd ≠ .plain → RlAt P w K mg base H G.rf G.ru s.ru
  pap : kd ≠ .plain → PapsAt H G.fp G.pa s.pp
  wf : Wf s.q s.k
  tb : t.b = s.q.b ∧ t.p = s.q.p
  nr : r ∉ G.all kd
  nt : G.rt ∉ G.all kd
  cb : ∀ a ∈ G.fb.all G.rb, a ∉ G.fc.all G.rc
  np : kd ≠ .plain → G.pa ∉ G.mut ∧ ∀ a ∈ G.rf, a ∉ G.mut ∧ a ≠ G.pa
  nf : kd ≠ .plain → ∀ a ∈ G.fp, a ∉ G.all kd ∧ a ≠ r ∧ a ≠ G.rt
  fa : kd ≠ .plain → ∀ a ∈ G.fp, ∃ xs, H a = some (.lst xs)
theorem _root_.Kit.Off.new1 {S : List Addr} {H H1 H2 : Hp} {p : Addr} (h1 : Off S H H1) (h2 : Off [p] H1 H2) (n : H p = none) : Off S H H2 := fun b o hb e => h2 b o (fun z => by rw [List.mem_singleton.mp z, n] at e; cases e) (h1 b o hb e)
section
variable {T : Txt K mg} {kd : Kd} {C : Addr} {H H' : Hp} {r : Addr} {G : PG} {t : Ts} {s : St}
/-- a new object that is not the store's changes -/
theorem SP.pp (h : SP P w base T kd C H r G t s) (hk : kd ≠ .plain) : ∃ vs, H G.pa = some (.lst vs) := by
  obtain ⟨vs, e, _⟩ := h.pap hk
  exact ⟨vs, e⟩
theorem SP.thereM (h : SP P w base T kd C H r G t s) : ∀ a ∈ G.mut, ∃ o, H a = some o ∧ ∀ xs, o ≠ .tup xs := fun a ha => by
  rcases List.mem_append.mp ha with ha | ha
  · exact h.chip.there a ha
  · exact h.book.there a ha
theorem SP.there (h : SP P w base T kd C H r G t s) : ∀ a ∈ G.all kd, ∃ o, H a = some o ∧ ∀ xs, o ≠ .tup xs := fun a ha => by
  by_cases hk : kd = .plain
  · subst hk
    refine h.thereM a ?_
    unfold PG.all at ha
    rw [List.append_nil] at ha
    exact ha
  · rw [PG.all_store hk] at ha
    rcases List.mem_append.mp ha with ha | ha
    · exact h.thereM a ha
    rcases List.mem_cons.mp ha with rfl | ha
    · obtain ⟨vs, e⟩ := h.pp hk
      exact ⟨_, e, fun _ z => by cases z⟩
    · exact (h.rule hk).there a ha
theorem SP.fresh (h : SP P w base T kd C H r G t s) {q : Addr} (hq : H q = none) : q ∉ G.all kd := fun m => by
  obtain ⟨o, e, _⟩ := h.there q m
  rw [hq] at e
  cases e
theorem SP.freshF (h : SP P w base T kd C H r G t s) (hk : kd ≠ .plain) {q : Addr} (hq : H q = none) : q ∉ G.fp := fun m => by
  obtain ⟨o, e⟩ := h.fa hk q m
  rw [hq] at e
  cases e
theorem SP.freshR (h : SP P w base T kd C H r G t s) {q : Addr} (hq : H q = none) : r ≠ q ∧ G.rt ≠ q := ⟨ne_of_none h.obj hq, ne_of_none h.terms hq⟩
theorem SP.tupsM (h : SP P w base T kd C H r G t s) (o : Off G.mut H H') : TupS H H' := tups_of h.thereM o
theorem SP.tups (h : SP P w base T kd C H r G t s) (o : Off (G.all kd) H H') : TupS H H' := tups_of h.there o
theorem SP.mono (e : Same H H') (h : SP P w base T kd C H r G t s) : SP P w base T kd C H' r G t s :=
  ⟨h.v, e _ _ h.obj, h.chip.mono e, e _ _ h.terms, h.book.mono e, fun hk => (h.rule hk).mono e, fun hk => (h.pap hk).at (fun _ => e _ _) (fun _ _ _ => e _ _) (TupS.of e), h.wf, h.tb, h.nr, h.nt, h.cb, h.np, h.nf, fun hk a ha => (h.fa hk a ha).imp fun _ => e _ _⟩
/-- the chip changes -/
theorem SP.chipC (h : SP P w base T kd C H r G t s) {q' : Pc} (o : Off (G.fc.all G.rc) H H') (hC : ChipP T.C_Chip H' G.rc G.fc q') (e : q'.b = s.q.b ∧ q'.p = s.q.p) (hw : Wf q' s.k) : SP P w base T kd C H' r G t { s with q := q' } := by
  have o2 : Off G.mut H H' := o.sub fun b hb => List.mem_append_left _ hb
  have tt := h.tupsM o2
  have far : ∀ {a : Addr} {x : HO}, a ∉ G.mut → H a = some x → H' a = some x := fun ha hx => o2.at hx ha
  exact ⟨h.v, far (fun z => h.nr (PG.mut_all z)) h.obj, hC, far (fun z => h.nt (PG.mut_all z)) h.terms, h.book.off o h.cb, fun hk => (h.rule hk).off o2 (fun a ha => ((h.np hk).2 a ha).1) tt, fun hk => (h.pap hk).at (fun _ => far (h.np hk).1) (fun a ha _ => far (fun z => (h.nf hk a ha).1 (PG.mut_all z))) tt, hw, ⟨h.tb.1.trans e.1.symm, h.tb.2.trans e.2.symm⟩, h.nr, h.nt, h.cb, h.np, h.nf, fun hk a ha => (h.fa hk a ha).imp fun _ => far (fun z => (h.nf hk a ha).1 (PG.mut_all z))⟩
/-- what is not the store's changes -/
theorem SP.off {S : List Addr} (h : SP P w base T kd C H r G t s) (o : Off S H H') (n : ∀ a ∈ G.all kd, a ∉ S) (nf : ∀ a ∈ G.fp, a ∉ S) (n1 : r ∉ S) (n2 : G.rt ∉ S) (tt : TupS H H') : SP P w base T kd C H' r G t s := by
  have nm : ∀ a ∈ G.mut, a ∉ S := fun a ha => n a (PG.mut_all ha)
  have na : ∀ hk : kd ≠ .plain, ∀ a ∈ G.pa :: G.rf, a ∉ S := fun hk a ha => n a (by rw [PG.all_store hk]; exact List.mem_append_right _ ha)
  exact ⟨h.v, o.at h.obj n1, h.chip.off o (fun a ha => nm a (List.mem_append_left _ ha)) tt, o.at h.terms n2, h.book.off o (fun a ha => nm a (List.mem_append_right _ ha)), fun hk => (h.rule hk).off o (fun a ha => na hk a (List.mem_cons_of_mem _ ha)) tt, fun hk => (h.pap hk).at (fun _ e => o.at e (na hk _ List.mem_cons_self)) (fun a ha _ e => o.at e (nf a ha)) tt, h.wf, h.tb, h.nr, h.nt, h.cb, h.np, h.nf, fun hk a ha => (h.fa hk a ha).imp fun _ e => o.at e (nf a ha)⟩
/-- a list that came behind the store changes -/
theorem SP.off1 {H0 : Hp} {s0 : St} (h : SP P w base T kd C H r G t s) (h0 : SP P w base T kd C H0 r G t s0) {q : Addr} (hq : H0 q = none) (o : Off [q] H H') (tt : TupS H H') (hk : kd ≠ .plain) : SP P w base T kd C H' r G t s :=
  h.off o (fun a ha => nin_of (fun z => h0.fresh hq (z ▸ ha))) (fun a ha => nin_of (fun z => h0.freshF hk hq (z ▸ ha))) (nin_of (h0.freshR hq).1) (nin_of (h0.freshR hq).2) tt
theorem SP.lk (h : SP P w base T kd C H r G t s) {m : Str} (hm : (objF .store G).lookup m = none) : (objF kd G).lookup m = none := by
  cases kd
  · unfold objF restF at hm ⊢
    rw [List.lookup_append] at hm
    rw [List.append_nil]
    cases hh : (coreF G).lookup m with
    | none => rfl
    | some x => rw [hh] at hm; cases hm
  · exact hm
  · exact hm
  · exact hm
end
/-! ### what a store tells of its blocks -/
theorem range_filt2 {f : Nat → Bool} {s : Nat} : (List.range (s + 1)).filter f = if f s = true then (List.range s).filter f ++ [s] else (List.range s).filter f := by
  rw [List.range_succ, List.filter_append]
  split
  · rename_i h; simp [h]
  · rename_i h; simp [h]
theorem goodQ_len {q : Pc} : (goodQ q).length ≤ q.b.toNat := by
  unfold goodQ
  refine Nat.le_trans (List.length_filter_le _ _) ?_
  rw [List.length_range]
  exact Nat.le_refl _
theorem goodQ_lt {q : Pc} {n : Nat} (h : n ∈ goodQ q) : n < q.b.toNat := by
  unfold goodQ at h
  exact List.mem_range.mp (List.mem_filter.mp h).1
theorem ChipP.sz {C : Addr} {H : Hp} {r : Addr} {F : CF} {q : Pc} (h : ChipP C H r F q) : (2 ≤ q.b ∧ q.b ≤ 16) ∧ (1 ≤ q.p ∧ q.p ≤ 16) ∧ (q.broken.length : Int) = q.b ∧ (q.clr.length : Int) = q.b := by
  obtain ⟨st, hC, _⟩ := h
  exact ⟨hC.sz.b, hC.sz.p, hC.sz.broken, hC.sz.clr⟩
/-- what is asked of a store, and changes nothing -/
def spAskQ (T : Txt K mg) (f : Kd → Ts → St → VK → Hp → Hp → Prop) (P : Program) (w : World) (base : Heap) : Sp := fun vs H Q _ => ∃ (kd : Kd) (C r : Addr) (G : PG) (t : Ts) (s : St), vs = [.ref r] ∧ SP P w base T kd C H r G t s ∧ ∀ H', Same H H' → f kd t s Q H H'
theorem spAskQ_len {T : Txt K mg} {f : Kd → Ts → St → VK → Hp → Hp → Prop} {vs : List V} {H : Hp} {Q : VK} {E : XK} (h : spAskQ T f P w base vs H Q E) : vs.length = 1 := by
  obtain ⟨_, _, _, _, _, _, rfl, _⟩ := h
  rfl
def natsV (l : List Nat) : List V := l.map fun n : Nat => V.int (n : Int)
def aGood : Kd → Ts → St → VK → Hp → Hp → Prop := fun _ _ s Q H H' => ∀ p, H p = none → H' p = some (.lst (natsV (goodQ s.q))) → Q (.ref p) H'
theorem ok_Plain_good (T : Txt K mg) : FO P w K mg base 5 T.a_Plain_good T.fd_Plain_good ["self"] (spAskQ T aGood P w base) := by
  have sc := sc_Plain_good
  refine T.F_Plain_good.okX sc (fun vs H Q E h => spAskQ_len h) (fun cdv A outer s H vs Q E hr h => ?_)
  obtain ⟨kd, C, r, G, t, s, rfl, hP, q⟩ := h
  refine ⟨_, (pss_one (ps_ret (pe_lc (own := [("block", 1)]) (by rfl) sc.nd (pi_range1 (by rfl) T.b_range (pa_cons (pe_fld (pe_fld (pv 0) rfl) rfl) pa_nil)) (blkOk_by (own := [("block", 1)]) (N := N_Plain_good) (sc := defScope s_Plain_good) (by decide +kernel)) (fun _ _ _ _ _ => (pg_name (i := 1) sc.nd rfl (by first | exact Or.inl rfl | exact Or.inr rfl))) (fun _ _ _ _ _ => (pts_one (pt_not (K_truth (K := K) (K_methD (P := P) (w := w) (K := K) (mg := mg) (base := base) (k := 4) (K_fld (K := K) (pv 0) rfl) (hr.mono (by decide)) passL2 (pa_cons (pv 1) pa_nil)) (by intro _; rfl))))) (fun _ _ _ _ _ => (pv 1))))), ?_⟩
  have vcl := hP.v.cl
  have vn1 := hP.v.n1
  have vn2 := hP.v.n2
  have ho := hP.obj
  have hot := hP.terms
  obtain ⟨⟨z1, z2⟩, _, zb, _⟩ := hP.chip.sz
  obtain ⟨st, hC, _⟩ := hP.chip
  have es := hP.tb.1
  unfold objF coreF at ho
  unfold termF at hot
  walk_at "begin"
  walk_at "go"
  rw [es]
  refine x_lcR1K (fun i acc H' => acc = natsV ((List.range i).filter fun n => !s.q.broken.getD n false)) (fun i acc H H' _ h => h) ⟨by omega, by omega⟩ rfl ?_ ?_
  · intro i acc H' hi hs' ha NY NN hY hN
    have hC' := hC.mono hs'
    have ho' := hs' _ _ ho
    have hi2 : 0 ≤ ((i : Nat) : Int) ∧ ((i : Nat) : Int) < (s.q.toC st).b := ⟨by omega, by show (i : Int) < s.q.b; omega⟩
    dsimp only [wipe]
    walk_at "go"
    refine ⟨rfl, ?_⟩
    walk_at "go"
    refine x_mFailed hC' ?_
    walk_at "go"
    refine x_failed hC' ?_ hi2
    rw [Int.toNat_natCast]
    have er := range_filt2 (f := fun n => !s.q.broken.getD n false) (s := i)
    show ∃ k, TruV K (V.bl (s.q.broken.getD i false)) H' k ∧ _
    cases hbk : s.q.broken.getD i false with
    | true =>
      walk_at "go"
      refine hN _ (fun _ _ h => h) ?_
      show acc = _
      rw [er, if_neg (by rw [hbk]; decide)]
      exact ha
    | false =>
      walk_at "go"
      refine hY _ _ (fun _ _ h => h) ?_
      show acc ++ _ = _
      rw [er, if_pos (by rw [hbk]; rfl), ha]
      unfold natsV
      rw [List.map_append]
      rfl
  · intro p acc H2 hp hs2 hn2 ha
    rw [ha] at hn2
    exact q H2 hs2 p hp hn2
section
variable {T : Txt K mg} {kd : Kd} {C : Addr} {H H' : Hp} {Q : VK} {E : XK} {σ : L2.St} {r : Addr} {G : PG} {t : Ts} {s : St}
theorem x_qGood (hP : SP P w base T kd C H r G t s) (q : ∀ p H', Same H H' → H p = none → H' p = some (.lst (natsV (goodQ s.q))) → Q (.ref p) H') : mtK P w K mg base (L2.CX P w) 5 "good" E σ tNil Q (.ref r) H :=
  x_mtK hP.obj ⟨⟨_, _, _, hP.v.cl, hP.v.good, ok_Plain_good T, T.bd_Plain_good⟩⟩ (hP.lk (by rfl)) ⟨kd, C, r, G, t, s, rfl, hP, fun H' hs p hp hn => q p H' hs hp hn⟩
end
/-! ### the block that is partly written -/
def oV : Option Nat → V
  | none => .non
  | some n => .int (n : Int)
def aPart : Kd → Ts → St → VK → Hp → Hp → Prop := fun _ _ s Q _ H' => Q (oV (partQ s.q s.k)) H'
theorem ok_Plain_part (T : Txt K mg) : FO P w K mg base 6 T.a_Plain_part T.fd_Plain_part ["self"] (spAskQ T aPart P w base) := by
  have sc := sc_Plain_part
  refine T.F_Plain_part.okX sc (fun vs H Q E h => spAskQ_len h) (fun cdv A outer s H vs Q E hr h => ?_)
  obtain ⟨kd, C, r, G, t, s, rfl, hP, q⟩ := h
  refine ⟨_, (pss_cons (ps_for (passes_of rfl) rfl (pi_list (pe_methD0 (k := 5) (pv 0) (hr.mono (by decide)) (passAt (takes_of rfl rfl rfl rfl)))) (pg_name (i := 1) sc.nd rfl (by first | exact Or.inl rfl | exact Or.inr rfl)) (pss_one (ps_if (pt_chain op_uLt op_uLt pe_int (pe_ix ix_seq (pe_fld (pe_fld (pv 0) rfl) rfl) (pv 1) (fun _ _ => rfl)) (pe_fld (pe_fld (pv 0) rfl) rfl)) (pss_one (ps_ret (pv 1))) pss_nil)))
      (pss_one (ps_ret pe_non))), ?_⟩
  have vcl := hP.v.cl
  have vn2 := hP.v.n2
  have vn3 := hP.v.n3
  walk_at "begin"
  refine x_seq ?_
  walk_at "go"
  refine x_qGood hP fun p H1 hs1 hp1 hn1 => ?_
  have hP1 := hP.mono hs1
  have ho := hP1.obj
  have hot := hP1.terms
  have hob := hP1.book.obj
  have hfl := hP1.book.fl
  have zf := hP1.wf.bk.fil
  have ekb := hP1.wf.kb
  have es := hP1.tb.2
  unfold objF coreF at ho
  unfold termF at hot
  unfold bookF at hob
  refine x_frL (SqL.of hn1) (fun i σ H' => H' = H1 ∧ (∃ v1 : Option V, σ = [some (.ref r), v1]) ∧ partQ s.q s.k = ((goodQ s.q).drop i).find? fun n => decide (0 < s.k.fil.getD n 0) && decide (s.k.fil.getD n 0 < s.q.p)) ⟨rfl, ⟨_, rfl⟩, rfl⟩ (fun i σ H' _ h => by rw [h.1]; exact SqL.of hn1) ?_ ?_
  · intro i x σ H' hx ⟨hH, ⟨v1, hσ⟩, hpo⟩
    subst hσ hH
    unfold natsV at hx
    rw [List.getElem?_map] at hx
    cases he : (goodQ s.q)[i]? with
    | none => rw [he] at hx; simp at hx
    | some n =>
      rw [he] at hx
      simp at hx
      subst hx
      obtain ⟨hil, e1⟩ := List.getElem?_eq_some_iff.mp he
      rw [List.drop_eq_getElem_cons hil, e1, List.find?_cons] at hpo
      have hn := goodQ_lt (List.mem_of_getElem? he)
      have hn2 : ((n : Nat) : Int) < s.k.fil.length := by omega
      walk_at "go"
      rw [Int.toNat_natCast]
      refine x_iteD (fun h1 => ?_) (fun h1 => ?_)
      · rw [decide_eq_true h1, Bool.true_and] at hpo
        walk_at "go"
        rw [es]
        refine x_iteD (fun h2 => ?_) (fun h2 => ?_)
        · rw [decide_eq_true h2] at hpo
          walk_at "go"
          have := q H' hs1
          unfold aPart at this
          rw [hpo] at this
          exact this
        · rw [decide_eq_false h2] at hpo
          walk_at "go"
          exact ⟨rfl, ⟨_, rfl⟩, hpo⟩
      · rw [decide_eq_false h1, Bool.false_and] at hpo
        walk_at "go"
        exact ⟨rfl, ⟨_, rfl⟩, hpo⟩
  · intro σ H' ⟨hH, ⟨v1, hσ⟩, hpo⟩
    subst hσ hH
    unfold natsV at hpo
    rw [List.length_map, List.drop_length] at hpo
    walk_at "go"
    have := q H' hs1
    unfold aPart at this
    rw [hpo] at this
    exact this
theorem x_qPart {T : Txt K mg} {kd : Kd} {C : Addr} {H : Hp} {Q : VK} {E : XK} {σ : L2.St} {r : Addr} {G : PG} {t : Ts} {s : St} (hP : SP P w base T kd C H r G t s) (q : ∀ H', Same H H' → Q (oV (partQ s.q s.k)) H') : mtK P w K mg base (L2.CX P w) 6 "part" E σ tNil Q (.ref r) H :=
  x_mtK hP.obj ⟨⟨_, _, _, hP.v.cl, hP.v.part, ok_Plain_part T, T.bd_Plain_part⟩⟩ (hP.lk (by rfl)) ⟨kd, C, r, G, t, s, rfl, hP, q⟩
/-! ### the free blocks -/
def aFree : Kd → Ts → St → VK → Hp → Hp → Prop := fun _ _ s Q H H' => ∀ p, H p = none → H' p = some (.lst (((sortP (freeQ s.q s.k)).map (·.2)).map V.int)) → Q (.ref p) H'
def freeN (q : Pc) (k : Bk) (ns : List Nat) : List (Int × Int) := (ns.filter fun n => decide (k.fil.getD n 0 = 0)).map fun n : Nat => (q.clr.getD n 0, (n : Int))
theorem freeN_snoc {q : Pc} {k : Bk} {ns : List Nat} {n : Nat} : freeN q k (ns ++ [n]) = if k.fil.getD n 0 = 0 then freeN q k ns ++ [(q.clr.getD n 0, (n : Int))] else freeN q k ns := by
  unfold freeN
  rw [List.filter_append]
  split
  · rename_i h
    rw [show [n].filter (fun n => decide (k.fil.getD n 0 = 0)) = [n] by rw [List.filter_cons, if_pos (decide_eq_true h)]; rfl, List.map_append]
    rfl
  · rename_i h
    rw [show [n].filter (fun n => decide (k.fil.getD n 0 = 0)) = [] by rw [List.filter_cons, if_neg (by rw [decide_eq_false h]; decide)]; rfl, List.append_nil]
theorem freeN_len {q : Pc} {k : Bk} {ns : List Nat} : (freeN q k ns).length ≤ ns.length := by
  unfold freeN
  rw [List.length_map]
  exact List.length_filter_le _ _
theorem freeQ_len {q : Pc} {k : Bk} : (freeQ q k).length ≤ q.b.toNat := Nat.le_trans (freeN_len (q := q) (k := k) (ns := goodQ q)) goodQ_len
theorem ok_Plain_free (T : Txt K mg) : FO P w K mg base 6 T.a_Plain_free T.fd_Plain_free ["self"] (spAskQ T aFree P w base) := by
  have sc := sc_Plain_free
  refine T.F_Plain_free.okX sc (fun vs H Q E h => spAskQ_len h) (fun cdv A outer s H vs Q E hr h => ?_)
  obtain ⟨kd, C, r, G, t, s, rfl, hP, q⟩ := h
  refine ⟨_, (pss_cons (ps_set (i := 1) sc.nd rfl (by first | exact Or.inl rfl | exact Or.inr rfl) (pe_lst pa_nil))
      (pss_cons (ps_for (passes_of rfl) rfl (pi_list (pe_methD0 (k := 5) (pv 0) (hr.mono (by decide)) (passAt (takes_of rfl rfl rfl rfl)))) (pg_name (i := 2) sc.nd rfl (by first | exact Or.inl rfl | exact Or.inr rfl)) (pss_one (ps_if (pt_cmpR (op_uEq hr.units) (pe_ix ix_seq (pe_fld (pe_fld (pv 0) rfl) rfl) (pv 2) (fun _ _ => rfl)) pe_int (nomark _)) (pss_one (ps_expr (pe_bm PySem.F.plainAttrs_list PySem.F.slot_list_append PySem.F.type_list_append mt_append (pv 1) (pa_cons (pe_tup (pa_cons (pe_methD (k := 4) (pe_fld (pv 0) rfl) (hr.mono (by decide)) (passAt (takes_of rfl rfl rfl rfl)) (pa_cons (pv 2) pa_nil)) (pa_cons (pv 2) pa_nil))) pa_nil)))) pss_nil)))
      (pss_one (ps_ret (pe_lc (own := [("times", 3), ("block", 2)]) (by rfl) sc.nd (pi_list (pe_callB (cr_usorted) (by rfl) T.b_sorted bt_sorted (pa_cons (pv 1) pa_nil))) (blkOk_by (own := [("times", 3), ("block", 2)]) (N := N_Plain_free) (sc := defScope s_Plain_free) (by decide +kernel)) (fun _ _ _ _ _ => (K_gtup (K := K) (n := 2) (by rfl) (pgs_cons (pg_name (i := 3) sc.nd rfl (by first | exact Or.inl rfl | exact Or.inr rfl)) (pgs_cons (pg_name (i := 2) sc.nd rfl (by first | exact Or.inl rfl | exact Or.inr rfl)) pgs_nil)))) (fun _ _ _ _ _ => pts_nil) (fun _ _ _ _ _ => (pv 2))))))), ?_⟩
  have vcl := hP.v.cl
  have vn1 := hP.v.n1
  have vn3 := hP.v.n3
  obtain ⟨⟨z1, z2⟩, _, _, _⟩ := hP.chip.sz
  walk_at "begin"
  walk_at "go"
  rename_i p H1 hp hs1 hn1
  refine x_seq ?_
  walk_at "go"
  have hP1 := hP.mono hs1
  refine x_qGood hP1 fun g H2 hs2 hg2 hn2 => ?_
  have hpne : p ≠ g := ne_of_none hn1 hg2
  have sHp : Same H H2 := hs1.trans hs2
  walk_at "go"
  refine x_frL (SqL.of hn2) (fun i σ H' => Same H H' ∧ H' g = some (.lst (natsV (goodQ s.q))) ∧ (∃ v2 : Option V, σ = [some (.ref r), some (.ref p), v2, none]) ∧ ∃ xs, H' p = some (.lst xs) ∧ PairL H' xs (freeN s.q s.k ((goodQ s.q).take i)))
    ⟨sHp, hn2, ⟨_, rfl⟩, [], hs2 _ _ hn1, PairL.nil⟩ (fun i σ H' _ h => SqL.of h.2.1) ?_ ?_
  · intro i x σ H' hx ⟨sH, hg', ⟨v2, hσ⟩, xs, hxs, hpl⟩
    subst hσ
    unfold natsV at hx
    rw [List.getElem?_map] at hx
    cases he : (goodQ s.q)[i]? with
    | none => rw [he] at hx; simp at hx
    | some n =>
      rw [he] at hx
      simp at hx
      subst hx
      have hP' := hP.mono sH
      have ho := hP'.obj
      have hob := hP'.book.obj
      have hfl := hP'.book.fl
      have zf := hP'.wf.bk.fil
      have ekb := hP'.wf.kb
      obtain ⟨st, hC, _⟩ := hP'.chip
      unfold objF coreF at ho
      unfold bookF at hob
      have hn := goodQ_lt (List.mem_of_getElem? he)
      have hn2 : ((n : Nat) : Int) < s.k.fil.length := by omega
      have hxl : xs.length < sizeLine := Nat.lt_of_le_of_lt (show xs.length ≤ 1000 by
        rw [hpl.1]
        have l1 := freeN_len (q := s.q) (k := s.k) (ns := (goodQ s.q).take i)
        have l2 : ((goodQ s.q).take i).length ≤ (goodQ s.q).length := by rw [List.length_take]; exact Nat.min_le_right _ _
        have l3 := goodQ_len (q := s.q)
        omega) (by decide)
      rw [List.take_add_one, he]
      show _
      walk_at "go"
      rw [Int.toNat_natCast]
      refine x_iteD (fun h1 => ?_) (fun h1 => ?_)
      · walk_at "go"
        refine x_mCleared hC ?_
        walk_at "go"
        refine x_cleared hC ?_ ⟨by omega, by show (n : Int) < s.q.b; omega⟩
        rw [Int.toNat_natCast]
        show _
        walk_at "go"
        rename_i t1 H4 ht1 hs4 hn4 H5 hO5 hI5
        have hxs4 := hs4 _ _ hxs
        have tS := hO5.tupsL hxs4
        refine ⟨Off.same1 (sH.trans hs4) hO5 hp, hO5.at (hs4 _ _ hg') (nin_of hpne.symm), ⟨_, rfl⟩, _, hI5, ?_⟩
        show PairL H5 _ (freeN s.q s.k ((goodQ s.q).take i ++ [n]))
        rw [freeN_snoc, if_pos h1]
        exact ((hpl.mono (TupS.of hs4)).mono tS).snoc ⟨t1, rfl, tS _ _ hn4⟩
      · walk_at "go"
        refine ⟨sH, hg', ⟨_, rfl⟩, xs, hxs, ?_⟩
        show PairL _ _ (freeN s.q s.k ((goodQ s.q).take i ++ [n]))
        rw [freeN_snoc, if_neg h1]
        exact hpl
  · intro σ H' ⟨sH, hg', ⟨v2, hσ⟩, xs, hxs, hpl⟩
    subst hσ
    unfold natsV at hpl
    rw [List.length_map, List.take_length] at hpl
    have hpl' : PairL H' xs (freeQ s.q s.k) := hpl
    walk_at "go"
    refine x_sortP (SqL.of hxs) hpl' fun q1 ys H3 hq1 hs3 hn3 hpl3 => ?_
    walk_at "go"
    have hyl : ys.length < sizeLine := Nat.lt_of_le_of_lt (show ys.length ≤ 1000 by
      rw [hpl3.1, (sortP_perm _).length_eq]
      have := freeQ_len (q := s.q) (k := s.k)
      omega) (by decide)
    refine x_lcLK (SqL.of hn3) (fun i acc H' => acc = (((sortP (freeQ s.q s.k)).map (·.2)).take i).map V.int) (fun i acc H H' _ h => h) hyl rfl ?_ ?_
    · intro i x acc H4 hx hs4 ha NY NN hY hN
      have hil := (List.getElem?_eq_some_iff.mp hx).1
      obtain ⟨e, he⟩ : ∃ e, (sortP (freeQ s.q s.k))[i]? = some e := ⟨_, List.getElem?_eq_getElem (by have := hpl3.1; omega)⟩
      obtain ⟨t1, rfl, ht1⟩ := hpl3.2 i x e hx he
      have ht4 := hs4 _ _ ht1
      refine x_gtup2 (SqT.of ht4) ?_
      dsimp only [wipe, List.set]
      refine ⟨rfl, ?_⟩
      walk_at "go"
      refine hY _ _ (fun _ _ h => h) ?_
      show acc ++ _ = (((sortP (freeQ s.q s.k)).map (·.2)).take (i + 1)).map V.int
      rw [List.take_add_one, List.getElem?_map, he, ha, List.map_append]
      rfl
    · intro p2 acc H4 hp2 hs4 hn4 ha
      have s34 : Same H H3 := sH.trans hs3
      rw [ha, hpl3.1, ← List.length_map (f := fun e : Int × Int => e.2), List.take_length] at hn4
      exact q H4 (s34.trans hs4) p2 (same_none s34 hp2) hn4
theorem x_qFree {T : Txt K mg} {kd : Kd} {C : Addr} {H : Hp} {Q : VK} {E : XK} {σ : L2.St} {r : Addr} {G : PG} {t : Ts} {s : St} (hP : SP P w base T kd C H r G t s) (q : ∀ p H', Same H H' → H p = none → H' p = some (.lst (((sortP (freeQ s.q s.k)).map (·.2)).map V.int)) → Q (.ref p) H') : mtK P w K mg base (L2.CX P w) 6 "free" E σ tNil Q (.ref r) H :=
  x_mtK hP.obj ⟨⟨_, _, _, hP.v.cl, hP.v.free, ok_Plain_free T, T.bd_Plain_free⟩⟩ (hP.lk (by rfl)) ⟨kd, C, r, G, t, s, rfl, hP, fun H' hs p hp hn => q p H' hs hp hn⟩
/-! ### how many free blocks are kept back -/
def aRes0 : Kd → Ts → St → VK → Hp → Hp → Prop := fun _ _ _ Q _ H' => Q (.int 0) H'
theorem ok_Plain_reserve (T : Txt K mg) : FO P w K mg base 7 T.a_Plain_reserve T.fd_Plain_reserve ["self"] (spAskQ T aRes0 P w base) := by
  have sc := sc_Plain_reserve
  refine T.F_Plain_reserve.okX sc (fun vs H Q E h => spAskQ_len h) (fun cdv A outer s H vs Q E hr h => ?_)
  obtain ⟨kd, C, r, G, t, s, rfl, hP, q⟩ := h
  refine ⟨_, (pss_one (ps_ret pe_int)), ?_⟩
  walk_at "begin"
  walk_at "go"
  exact q H fun _ _ h => h
def aRes1 : Kd → Ts → St → VK → Hp → Hp → Prop := fun _ t _ Q _ H' => Q (.int (1 + t.i)) H'
theorem ok_Store_reserve (T : Txt K mg) : FO P w K mg base 7 T.a_Store_reserve T.fd_Store_reserve ["self"] (spAskQ T aRes1 P w base) := by
  have sc := sc_Store_reserve
  refine T.F_Store_reserve.okX sc (fun vs H Q E h => spAskQ_len h) (fun cdv A outer s H vs Q E hr h => ?_)
  obtain ⟨kd, C, r, G, t, s, rfl, hP, q⟩ := h
  refine ⟨_, (pss_one (ps_ret (pe_op op_uAdd pe_int (pe_fld (pe_fld (pv 0) rfl) rfl)))), ?_⟩
  have vcl := hP.v.cl
  have vn2 := hP.v.n2
  have ho := hP.obj
  have hot := hP.terms
  unfold objF coreF at ho
  unfold termF at hot
  walk_at "begin"
  walk_at "go"
  exact q H fun _ _ h => h
theorem x_qRes {T : Txt K mg} {kd : Kd} {C : Addr} {H : Hp} {Q : VK} {E : XK} {σ : L2.St} {r : Addr} {G : PG} {t : Ts} {s : St} (hP : SP P w base T kd C H r G t s) (q : ∀ H', Same H H' → Q (.int (resvQ kd t s.q)) H') : mtK P w K mg base (L2.CX P w) 7 "reserve" E σ tNil Q (.ref r) H := by
  have hok := hP.v.ok
  have hm := hP.v.reserve
  cases kd with
  | plain =>
    exact x_mtK hP.obj ⟨⟨_, _, _, hP.v.cl, hm, ok_Plain_reserve T, T.bd_Plain_reserve⟩⟩ (hP.lk (by rfl)) ⟨.plain, C, r, G, t, s, rfl, hP, q⟩
  | store =>
    exact x_mtK hP.obj ⟨⟨_, _, _, hP.v.cl, hm, ok_Store_reserve T, T.bd_Store_reserve⟩⟩ (hP.lk (by rfl)) ⟨.store, C, r, G, t, s, rfl, hP, q⟩
  | even =>
    exact x_mtK hP.obj ⟨⟨_, _, _, hP.v.cl, hm, ok_Store_reserve T, T.bd_Store_reserve⟩⟩ (hP.lk (by rfl)) ⟨.even, C, r, G, t, s, rfl, hP, q⟩
  | sure =>
    exact hok.elim
/-! ### ready, the next page -/
def aReady : Kd → Ts → St → VK → Hp → Hp → Prop := fun kd t s Q _ H' => Q (.bl (readyQ kd t s.q s.k)) H'
theorem ok_Plain_ready (T : Txt K mg) : FO P w K mg base 8 T.a_Plain_ready T.fd_Plain_ready ["self"] (spAskQ T aReady P w base) := by
  have sc := sc_Plain_ready
  refine T.F_Plain_ready.okX sc (fun vs H Q E h => spAskQ_len h) (fun cdv A outer s H vs Q E hr h => ?_)
  obtain ⟨kd, C, r, G, t, s, rfl, hP, q⟩ := h
  refine ⟨_, (pss_cons (ps_set (i := 1) sc.nd rfl (by first | exact Or.inl rfl | exact Or.inr rfl) (pe_callB (cr_ulen) (by rfl) T.b_len bt_len (pa_cons (pe_methD0 (k := 6) (pv 0) (hr.mono (by decide)) (passAt (takes_of rfl rfl rfl rfl))) pa_nil)))
      (pss_cons (ps_if (pt_cmpR op_uIs (pe_methD0 (k := 6) (pv 0) (hr.mono (by decide)) (passAt (takes_of rfl rfl rfl rfl))) pe_non (nomark _)) (pss_one (ps_ret (pe_cmpR op_gt (pv 1) (pe_methD0 (k := 7) (pv 0) (hr.mono (by decide)) (passAt (takes_of rfl rfl rfl rfl))) (nomark _)))) pss_nil)
      (pss_one (ps_ret (pe_cmpR op_ge (pv 1) (pe_methD0 (k := 7) (pv 0) (hr.mono (by decide)) (passAt (takes_of rfl rfl rfl rfl))) (nomark _)))))), ?_⟩
  unfold aReady readyQ at q
  walk_at "begin"
  walk_at "go"
  refine x_qFree hP fun p H1 hs1 hp1 hn1 => ?_
  have hP1 := hP.mono hs1
  walk_at "go"
  rw [List.length_map, (sortP_perm _).length_eq]
  walk_at "if"
  refine x_qPart hP1 fun H2 hs2 => ?_
  have hP2 := hP1.mono hs2
  have s02 := hs1.trans hs2
  walk_at "go"
  cases hpo : partQ s.q s.k with
  | some n =>
    rw [hpo] at q
    refine iteF ?_
    walk_at "go"
    refine x_qRes hP2 fun H3 hs3 => ?_
    walk_at "go"
    exact q H3 (s02.trans hs3)
  | none =>
    rw [hpo] at q
    refine iteT ?_
    walk_at "go"
    refine x_qRes hP2 fun H3 hs3 => ?_
    walk_at "go"
    exact q H3 (s02.trans hs3)
theorem x_qReady {T : Txt K mg} {kd : Kd} {C : Addr} {H : Hp} {Q : VK} {E : XK} {σ : L2.St} {r : Addr} {G : PG} {t : Ts} {s : St} (hP : SP P w base T kd C H r G t s) (q : ∀ H', Same H H' → Q (.bl (readyQ kd t s.q s.k)) H') : mtK P w K mg base (L2.CX P w) 8 "ready" E σ tNil Q (.ref r) H :=
  x_mtK hP.obj ⟨⟨_, _, _, hP.v.cl, hP.v.ready, ok_Plain_ready T, T.bd_Plain_ready⟩⟩ (hP.lk (by rfl)) ⟨kd, C, r, G, t, s, rfl, hP, q⟩
def iV : Option Int → V
  | none => .non
  | some n => .int n
theorem x_eqNilI {H : Hp} {p q : Addr} {ns : List Int} {Q : VK} (h1 : H p = some (.lst (ns.map V.int))) (h2 : H q = some (.lst [])) (k : Q (.bl ns.isEmpty) H) : uEq K (.ref p) (.ref q) H Q := by
  refine x_eqD (d := .list (ns.map PyData.int)) (.lst (SqL.of h1) dpInts) (.lst (SqL.of h2) .nil) (Sh.list (k := 8) fun d h => ?_) (Sh.list (k := 8) fun d h => by simp at h) ?_
  · obtain ⟨n, _, rfl⟩ := List.mem_map.mp h
    exact Sh.int
  · cases ns with
    | nil => exact k
    | cons n ns => exact k
def aSpot : Kd → Ts → St → VK → Hp → Hp → Prop := fun _ _ s Q _ H' => Q (iV (spotQ s.q s.k)) H'
theorem ok_Plain_spot (T : Txt K mg) : FO P w K mg base 7 T.a_Plain_spot T.fd_Plain_spot ["self"] (spAskQ T aSpot P w base) := by
  have sc := sc_Plain_spot
  refine T.F_Plain_spot.okX sc (fun vs H Q E h => spAskQ_len h) (fun cdv A outer s H vs Q E hr h => ?_)
  obtain ⟨kd, C, r, G, t, s, rfl, hP, q⟩ := h
  refine ⟨_, (pss_cons (ps_set (i := 1) sc.nd rfl (by first | exact Or.inl rfl | exact Or.inr rfl) (pe_methD0 (k := 6) (pv 0) (hr.mono (by decide)) (passAt (takes_of rfl rfl rfl rfl))))
      (pss_cons (ps_if (pt_cmpR op_uIs (pv 1) pe_non (nomark _)) (pss_cons (ps_set (i := 2) sc.nd rfl (by first | exact Or.inl rfl | exact Or.inr rfl) (pe_methD0 (k := 6) (pv 0) (hr.mono (by decide)) (passAt (takes_of rfl rfl rfl rfl))))
      (pss_cons (ps_if (pt_cmpR (op_uEq hr.units) (pv 2) (pe_lst pa_nil) (nomark _)) (pss_one (ps_ret pe_non)) pss_nil)
      (pss_one (ps_set (i := 1) sc.nd rfl (by first | exact Or.inl rfl | exact Or.inr rfl) (pe_ix ix_seq (pv 2) pe_int (fun _ _ => rfl)))))) pss_nil)
      (pss_one (ps_ret (pe_op op_uAdd (pe_op op_uMul (pv 1) (pe_fld (pe_fld (pv 0) rfl) rfl)) (pe_ix ix_seq (pe_fld (pe_fld (pv 0) rfl) rfl) (pv 1) (fun _ _ => rfl))))))), ?_⟩
  have vcl := hP.v.cl
  have vn2 := hP.v.n2
  have vn3 := hP.v.n3
  obtain ⟨⟨z1, z2⟩, ⟨z3, z4⟩, _, _⟩ := hP.chip.sz
  unfold aSpot spotQ nextQ at q
  walk_at "begin"
  walk_at "go"
  refine x_qPart hP fun H1 hs1 => ?_
  have hP1 := hP.mono hs1
  walk_at "go"
  refine x_join (fun σ' H2 => Same H H2 ∧ ∃ (n : Nat) (v2 : Option V), n < s.q.b.toNat ∧ σ' = [some (.ref r), some (.int (n : Int)), v2] ∧ ∀ H', Same H H' → Q (.int ((n : Int) * s.q.p + s.k.fil.getD n 0)) H') (fun R hR => ?_) ?_
  · walk_at "go"
    cases hpo : partQ s.q s.k with
    | some n =>
      rw [hpo] at q
      refine iteF ?_
      walk_at "go"
      exact hR _ _ ⟨hs1, n, _, (partQ_mem hpo).1, rfl, q⟩
    | none =>
      rw [hpo] at q
      refine iteT ?_
      walk_at "go"
      refine x_qFree hP1 fun p H2 hs2 hp2 hn2 => ?_
      walk_at "go"
      walk_at "if"
      rename_i p3 H3 hp3 hs3 hn3
      refine x_eqNilI (hs3 _ _ hn2) hn3 ?_
      have s13 : Same H H3 := (hs1.trans hs2).trans hs3
      cases hl : sortP (freeQ s.q s.k) with
      | nil =>
        rw [hl] at q
        walk_at "go"
        refine iteT ?_
        walk_at "go"
        exact q H3 s13
      | cons e l =>
        obtain ⟨n, he, hn, _⟩ := freeQ_mem (show e ∈ sortP (freeQ s.q s.k) by rw [hl]; exact List.mem_cons_self)
        rw [hl, he] at q
        rw [hl, he] at hn2
        have hn3' := hs3 _ _ hn2
        walk_at "go"
        refine iteF ?_
        walk_at "go"
        refine hR _ _ ⟨s13, n, _, hn, rfl, fun H' h => ?_⟩
        have := q H' h
        simp only [List.head?_cons, Option.map_some, Int.toNat_natCast] at this
        exact this
  intro σ' H2 ⟨hs2, n, v2, hn, hσ, q2⟩
  subst hσ
  have hP2 := hP.mono hs2
  have ho := hP2.obj
  have hot := hP2.terms
  have hob := hP2.book.obj
  have hfl := hP2.book.fl
  have zf := hP2.wf.bk.fil
  have ekb := hP2.wf.kb
  have es := hP2.tb.2
  unfold objF coreF at ho
  unfold termF at hot
  unfold bookF at hob
  have hn2 : ((n : Nat) : Int) < s.k.fil.length := by omega
  have hs0 : ((n : Nat) : Int).natAbs < 2 ^ 250 ∧ t.p.natAbs < 2 ^ 250 := ⟨by omega, by omega⟩
  walk_at "go"
  rw [Int.toNat_natCast, es]
  exact q2 _ hs2
theorem x_qSpot {T : Txt K mg} {kd : Kd} {C : Addr} {H : Hp} {Q : VK} {E : XK} {σ : L2.St} {r : Addr} {G : PG} {t : Ts} {s : St} (hP : SP P w base T kd C H r G t s) (q : ∀ H', Same H H' → Q (iV (spotQ s.q s.k)) H') : mtK P w K mg base (L2.CX P w) 7 "spot" E σ tNil Q (.ref r) H :=
  x_mtK hP.obj ⟨⟨_, _, _, hP.v.cl, hP.v.spot, ok_Plain_spot T, T.bd_Plain_spot⟩⟩ (hP.lk (by rfl)) ⟨kd, C, r, G, t, s, rfl, hP, q⟩
/-! ### how an ask ends -/
def FinR (T : Txt K mg) (e : Rf) (E : XK) (H' : Hp) : Prop := match e with
  | .dark => E (.ref T.C_PowerGone) none H'
  | .failed b => ∀ d, H' d = some (.xd [("block", .int b)]) → E (.ref T.C_BlockFailed) (some d) H'
  | .noroom => E (.ref T.C_NoRoom) none H'
  | .wornout => E (.ref T.a_law) none H'
  | .full => E (.ref T.C_Full) none H'
  | .nosheet => E (.ref T.C_NoSheet) none H'
  | .novalue => E (.ref T.C_NoValue) none H'
  | .stuck => False
def Out {α : Type} (T : Txt K mg) (o : Except Rf α) (Qk : α → Hp → Prop) (E : XK) (H' : Hp) : Prop := match o with
  | .ok a => Qk a H'
  | .error e => FinR T e E H'
/-- what is not too long -/
def Fits (s : St) : Prop := s.q.log.length < 900000 ∧ s.k.stamp < 10 ^ 30 ∧ s.pp.length < 900000
structure Le (s s' : St) : Prop where
  log : s.q.log.length ≤ s'.q.log.length
  stamp : s.k.stamp ≤ s'.k.stamp
  pp : s.pp.length ≤ s'.pp.length
theorem Le.refl {s : St} : Le s s := ⟨Nat.le_refl _, Int.le_refl _, Nat.le_refl _⟩
theorem Le.trans {s s1 s2 : St} (a : Le s s1) (b : Le s1 s2) : Le s s2 := ⟨Nat.le_trans a.log b.log, Int.le_trans a.stamp b.stamp, Nat.le_trans a.pp b.pp⟩
theorem Le.fits {s s' : St} (h : Le s s') (f : Fits s') : Fits s := ⟨Nat.lt_of_le_of_lt h.log f.1, Int.lt_of_le_of_lt h.stamp f.2.1, Nat.lt_of_le_of_lt h.pp f.2.2⟩
theorem putP_log {q : Pc} {pg : Int} {e : Int × Int} : q.log.length ≤ (q.putP pg e).2.log.length := by
  unfold Pc.putP
  split
  · exact Nat.le_refl _
  · split
    · show _ ≤ (q.log ++ [_]).length
      rw [List.length_append]
      exact Nat.le_add_right _ _
    · show _ ≤ (q.log ++ [_]).length
      rw [List.length_append]
      exact Nat.le_add_right _ _
theorem putP_bp {q : Pc} {pg : Int} {e : Int × Int} : (q.putP pg e).2.b = q.b ∧ (q.putP pg e).2.p = q.p := by
  unfold Pc.putP
  split
  · exact ⟨rfl, rfl⟩
  · split <;> exact ⟨rfl, rfl⟩
theorem putP_clr {q : Pc} {pg : Int} {e : Int × Int} : (q.putP pg e).2.clr = q.clr := by
  unfold Pc.putP
  split
  · rfl
  · split <;> rfl
theorem setDown_le {s : St} {n v : Int} : Le s (setDown s n v).2 := by
  unfold setDown
  cases spotQ s.q s.k with
  | none => exact Le.refl
  | some pg =>
    have hl := putP_log (q := s.q) (pg := pg) (e := (mk s.k.stamp n, v))
    dsimp only
    generalize s.q.putP pg (mk s.k.stamp n, v) = r at hl
    obtain ⟨o, q'⟩ := r
    cases o with
    | none => exact ⟨hl, by show _ ≤ (s.k.note pg n).stamp; rw [note_st]; omega, Nat.le_refl _⟩
    | some e => exact ⟨hl, Int.le_refl _, Nat.le_refl _⟩
/-- the chip's own put, by what the pages bear -/
theorem put_toC {q : Pc} {st : List V} {H : Hp} {pg : Int} {v : V} (hst : StfAt H st q.ct) (h0 : 0 ≤ pg) (h1 : pg < q.b * q.p) (hb : q.broken.getD (pg / q.p).toNat false = false) (hc : q.ct.getD pg.toNat none = none) (hl : (q.ct.length : Int) = q.b * q.p) (e : Int × Int) :
    (q.toC st).putR (some pg) v = (match (q.putP pg e).1 with
      | none => Res.ok
      | some (.failed b) => .failed b
      | _ => .dark, (q.putP pg e).2.toC (match (q.putP pg e).1 with
      | none => st.set pg.toNat v
      | _ => st)) := by
  have hin : inB (some pg) 0 ((q.toC st).b * (q.toC st).p - 1) = true := decide_eq_true ⟨h0, by show pg ≤ q.b * q.p - 1; omega⟩
  have hs : (q.toC st).stuff.getD pg.toNat .non = .non := by
    rcases hst.2 pg.toNat (by rw [hst.1]; omega) with z | ⟨a, m, x, z, _⟩
    · exact z.2
    · rw [hc] at z; cases z
  unfold Cs.putR
  rw [if_neg (by rw [hin]; decide)]
  simp only [Option.getD_some]
  unfold Pc.putP
  cases hd : q.dark with
  | true =>
    rw [if_pos (show (q.toC st).dark = true from hd), if_pos rfl]
  | false =>
    simp only [Bool.false_eq_true, if_false]
    rw [if_neg (show ¬ (q.toC st).dark = true from by rw [show (q.toC st).dark = q.dark from rfl, hd]; decide)]
    rw [if_neg (show ¬ (q.toC st).broken.getD (pg / (q.toC st).p).toNat false = true from by rw [show (q.toC st).broken.getD (pg / (q.toC st).p).toNat false = q.broken.getD (pg / q.p).toNat false from rfl, hb]; decide), if_neg (fun z => z hs)]
    cases hw : q.well (pg / q.p).toNat false with
    | true =>
      rw [if_pos (show (q.toC st).well (pg / (q.toC st).p).toNat false = true from hw)]
      rfl
    | false =>
      rw [if_neg (show ¬ (q.toC st).well (pg / (q.toC st).p).toNat false = true from by rw [show (q.toC st).well (pg / (q.toC st).p).toNat false = q.well (pg / q.p).toNat false from rfl, hw]; decide)]
      rfl
theorem StfAt.set {H : Hp} {st : List V} {ct : List (Option (Int × Int))} {i : Nat} {a : Addr} {e : Int × Int} (h : StfAt H st ct) (ha : H a = some (.tup [.int e.1, .int e.2])) : StfAt H (st.set i (.ref a)) (ct.set i (some e)) := by
  refine ⟨by rw [List.length_set, List.length_set, h.1], fun j hj => ?_⟩
  rw [List.length_set] at hj
  rw [getD_set', getD_set']
  by_cases e1 : j = i ∧ i < st.length
  · rw [if_pos e1, if_pos ⟨e1.1, by rw [← h.1]; exact e1.2⟩]
    exact .inr ⟨a, e.1, e.2, rfl, rfl, ha⟩
  · rw [if_neg e1, if_neg (fun z => e1 ⟨z.1, by rw [h.1]; exact z.2⟩)]
    exact h.2 j hj
def spPutQ (T : Txt K mg) : Sp := fun vs H Q E => ∃ (r : Addr) (F : CF) (q : Pc) (pg : Int) (a : Addr) (e : Int × Int), vs = [.ref r, .int pg, .ref a] ∧ ChipP T.C_Chip H r F q ∧ H a = some (.tup [.int e.1, .int e.2]) ∧ q.log.length < 900000 ∧ 0 ≤ pg ∧ pg < q.b * q.p ∧ q.broken.getD (pg / q.p).toNat false = false ∧ q.ct.getD pg.toNat none = none ∧ (q.ct.length : Int) = q.b * q.p ∧
  ∀ H', Off (F.all r) H H' → ChipP T.C_Chip H' r F (q.putP pg e).2 → (match (q.putP pg e).1 with
    | none => Q .non H'
    | some x => FinR T x E H')
theorem putQ_put {T : Txt K mg} {vs : List V} {H : Hp} {Q : VK} {E : XK} (h : spPutQ T vs H Q E) : spPut T vs H Q E := by
  obtain ⟨r, F, q, pg, a, e, rfl, ⟨st, hC, hst⟩, ha, hll, h0, h1, hb, hc, hl, k⟩ := h
  refine ⟨r, F, q.toC st, _, _, some pg, rfl, hC, .int pg, hll, fun H' hO hC' => ?_⟩
  rw [put_toC hst h0 h1 hb hc hl e] at hC' ⊢
  have tt := tups_of hC.there hO
  have k1 := k H' hO
  have e3 : (q.putP pg e).1 = none ∧ (q.putP pg e).2.ct = q.ct.set pg.toNat (some e) ∨ (∃ x, (q.putP pg e).1 = some x ∧ (x = .dark ∨ ∃ b, x = .failed b)) ∧ (q.putP pg e).2.ct = q.ct := by
    unfold Pc.putP
    split
    · exact .inr ⟨⟨_, rfl, .inl rfl⟩, rfl⟩
    · split
      · exact .inl ⟨rfl, rfl⟩
      · exact .inr ⟨⟨_, rfl, .inr ⟨_, rfl⟩⟩, rfl⟩
  generalize hr : q.putP pg e = res at hC' k1 e3 ⊢
  obtain ⟨o, q'⟩ := res
  rcases e3 with ⟨e1, e2⟩ | ⟨⟨x, e1, hx⟩, e2⟩
  · dsimp only at e1 e2
    subst e1
    refine x_finOk (k1 ⟨_, hC', ?_⟩)
    dsimp only
    rw [e2]
    exact (hst.mono tt).set (tt _ _ ha)
  · dsimp only at e1 e2
    subst e1
    rcases hx with rfl | ⟨b, rfl⟩
    · have k2 := k1 ⟨_, hC', by dsimp only; rw [e2]; exact hst.mono tt⟩
      exact x_finDark k2
    · have k2 := k1 ⟨_, hC', by dsimp only; rw [e2]; exact hst.mono tt⟩
      exact k2
def spSetDownQ (T : Txt K mg) (P : Program) (w : World) (base : Heap) : Sp := fun vs H Q E => ∃ (kd : Kd) (C r : Addr) (G : PG) (t : Ts) (s : St) (n v : Int), vs = [.ref r, .int n, .int v] ∧ SP P w base T kd C H r G t s ∧ (0 ≤ n ∧ n ≤ 64) ∧ Fits (setDown s n v).2 ∧
  ∀ H', Off G.mut H H' → SP P w base T kd C H' r G t (setDown s n v).2 → Out T (setDown s n v).1 (fun pg H' => Q (.int pg) H') E H'
theorem ok_Plain_set_down (T : Txt K mg) : FO P w K mg base 8 T.a_Plain_set_down T.fd_Plain_set_down ["self", "name", "value"] (spSetDownQ T P w base) := by
  have sc := sc_Plain_set_down
  refine T.F_Plain_set_down.okX sc (fun vs H Q E h => ?_) (fun cdv A outer s H vs Q E hr h => ?_)
  · obtain ⟨_, _, _, _, _, _, _, _, rfl, _⟩ := h
    rfl
  obtain ⟨kd, C, r, G, t, s, n, v, rfl, hP, hn, hf, q⟩ := h
  refine ⟨_, (pss_cons (ps_set (i := 3) sc.nd rfl (by first | exact Or.inl rfl | exact Or.inr rfl) (pe_methD0 (k := 7) (pv 0) (hr.mono (by decide)) (passAt (takes_of rfl rfl rfl rfl))))
      (pss_cons (ps_if (pt_cmpR op_uIs (pv 3) pe_non (nomark _)) (pss_one (ps_raiseK rfl (takes_of rfl rfl rfl rfl) (pmk_ownK T.xc_NoRoom T.g_NoRoom rfl))) pss_nil)
      (pss_cons (ps_expr (pe_methD (k := 4) (pe_fld (pv 0) rfl) (hr.mono (by decide)) (passAt (takes_of rfl rfl rfl rfl)) (pa_cons (pv 3) (pa_cons (pe_tup (pa_cons (pe_methD (k := 2) (pe_fld (pv 0) rfl) (hr.mono (by decide)) (passAt (takes_of rfl rfl rfl rfl)) (pa_cons (pv 1) pa_nil)) (pa_cons (pv 2) pa_nil))) pa_nil))))
      (pss_cons (ps_expr (pe_methD (k := 2) (pe_fld (pv 0) rfl) (hr.mono (by decide)) (passAt (takes_of rfl rfl rfl rfl)) (pa_cons (pv 3) (pa_cons (pv 1) pa_nil))))
      (pss_one (ps_ret (pv 3))))))), ?_⟩
  have vcl := hP.v.cl
  have vn1 := hP.v.n1
  have vn3 := hP.v.n3
  have hfi := setDown_le.fits hf
  walk_at "begin"
  walk_at "go"
  refine x_qSpot hP fun H1 hs1 => ?_
  have hP1 := hP.mono hs1
  have ho := hP1.obj
  unfold objF coreF at ho
  walk_at "go"
  walk_at "if"
  cases hsp : spotQ s.q s.k with
  | none =>
    refine iteT ?_
    walk_at "go"
    have e : setDown s n v = (.error .noroom, s) := by unfold setDown; rw [hsp]
    rw [e] at q
    exact q H1 (Off.of hs1) hP1
  | some pg =>
    refine iteF ?_
    obtain ⟨⟨z1, z2⟩, ⟨z3, z4⟩, _, _⟩ := hP.chip.sz
    obtain ⟨m, sp⟩ := spot_of z3 hsp
    obtain ⟨st, hC, _⟩ := hP1.chip
    walk_at "go"
    refine x_mPut hC ?_
    walk_at "go"
    refine x_mMark hP1.book ?_
    walk_at "go"
    have hst := hP.wf.bk.st
    refine ⟨G.rb, G.fb, s.k, n, rfl, hP1.book, hP.wf.bk, hn.1, by omega, ?_⟩
    walk_at "go"
    rename_i a H2 ha hs2 hn2
    have hP2 := hP1.mono hs2
    have s02 := hs1.trans hs2
    have e : setDown s n v = (match s.q.putP pg (mk s.k.stamp n, v) with
      | (none, q') => (.ok pg, { s with q := q', k := s.k.note pg n })
      | (some e, q') => (.error e, { s with q := q' })) := by unfold setDown; rw [hsp]
    have hstamp : s.k.stamp + 1 < 10 ^ 40 := by have := hfi.2.1; omega
    refine putQ_put (T := T) ?_
    refine ⟨G.rc, G.fc, s.q, pg, a, (mk s.k.stamp n, v), rfl, hP2.chip, hn2, hfi.1, sp.lo, sp.hi, by rw [sp.blk, Int.toNat_natCast]; exact sp.good, hP.wf.blank sp, hP.wf.ctl, fun H3 hO3 hC3 => ?_⟩
    have hb := putP_bp (q := s.q) (pg := pg) (e := (mk s.k.stamp n, v))
    have hcq : ∀ x, (s.q.putP pg (mk s.k.stamp n, v)).1 = some x → (s.q.putP pg (mk s.k.stamp n, v)).2.ct = s.q.ct := fun x hx => by
      unfold Pc.putP at hx ⊢
      split
      · rfl
      · rename_i hd
        rw [if_neg hd] at hx
        split
        · rename_i hw
          rw [if_pos hw] at hx
          cases hx
        · rfl
    have hcn : (s.q.putP pg (mk s.k.stamp n, v)).1 = none → (s.q.putP pg (mk s.k.stamp n, v)).2.ct = s.q.ct.set pg.toNat (some (mk s.k.stamp n, v)) := fun hx => by
      unfold Pc.putP at hx ⊢
      split
      · rename_i hd
        rw [if_pos hd] at hx
        cases hx
      · rename_i hd
        rw [if_neg hd] at hx
        split
        · rfl
        · rename_i hw
          rw [if_neg hw] at hx
          cases hx
    have hlg := putP_log (q := s.q) (pg := pg) (e := (mk s.k.stamp n, v))
    have hcl := putP_clr (q := s.q) (pg := pg) (e := (mk s.k.stamp n, v))
    generalize s.q.putP pg (mk s.k.stamp n, v) = res at e hC3 hb hcq hcn hlg hcl ⊢
    obtain ⟨o, q'⟩ := res
    cases o with
    | some x =>
      dsimp only at e ⊢
      rw [e] at q
      have hP3 := hP2.chipC hO3 hC3 hb (hP.wf.chip hb.1 hb.2 (hcq x rfl) hcl hlg)
      exact q H3 ((Off.of s02).trans (hO3.sub fun b hb => List.mem_append_left _ hb)) hP3
    | none =>
      dsimp only at e ⊢
      rw [e] at q
      have hwf := hP.wf.put (q' := q') sp hn hstamp hb.1 hb.2 (hcn rfl) hcl hlg
      have o3 : Off G.mut H H3 := (Off.of s02).trans (hO3.sub fun b hb => List.mem_append_left _ hb)
      have ho3 : H3 r = some (.ins C G.dx (objF kd G)) := (hO3.sub fun b hb => List.mem_append_left _ hb : Off G.mut H2 H3).at hP2.obj (fun z => hP2.nr (PG.mut_all z))
      have hB3 : BookAt T.C_Book H3 G.rb G.fb s.k := hP2.book.off hO3 hP2.cb
      have hP3 : ∀ H4, Off (G.fb.all G.rb) H3 H4 → BookAt T.C_Book H4 G.rb G.fb (s.k.note pg n) → SP P w base T kd C H4 r G t { s with q := q', k := s.k.note pg n } := fun H4 o4 hB4 => by
        have o24 : Off G.mut H2 H4 := (hO3.sub fun b hb => List.mem_append_left _ hb : Off G.mut H2 H3).trans (o4.sub fun b hb => List.mem_append_right _ hb)
        have tt := hP2.tupsM o24
        have far : ∀ {a : Addr} {x : HO}, a ∉ G.mut → H2 a = some x → H4 a = some x := fun ha hx => o24.at hx ha
        exact ⟨hP2.v, far (fun z => hP2.nr (PG.mut_all z)) hP2.obj, hC3.off o4 (fun a ha hb => hP2.cb a hb ha) (tups_of (fun a ha => hB3.there a ha) o4), far (fun z => hP2.nt (PG.mut_all z)) hP2.terms, hB4, fun hk => (hP2.rule hk).off o24 (fun a ha => ((hP2.np hk).2 a ha).1) tt, fun hk => (hP2.pap hk).at (fun _ => far (hP2.np hk).1) (fun a ha _ => far (fun z => (hP2.nf hk a ha).1 (PG.mut_all z))) tt, hwf, ⟨hP2.tb.1.trans hb.1.symm, hP2.tb.2.trans hb.2.symm⟩, hP2.nr, hP2.nt, hP2.cb, hP2.np, hP2.nf, fun hk a ha => (hP2.fa hk a ha).imp fun _ => far (fun z => (hP2.nf hk a ha).1 (PG.mut_all z))⟩
      unfold objF coreF at ho3
      walk_at "go"
      refine x_mNote hB3 ?_
      walk_at "go"
      refine (show spNote T [.ref G.rb, .int pg, .int n] H3 _ _ from ?_)
      refine ⟨G.rb, G.fb, s.k, pg, n, rfl, hB3, hP.wf.bk, sp.lo, by rw [hP.wf.kb, hP.wf.kp]; exact sp.hi, fun H4 hO4 hB4 => ?_⟩
      have q4 := q H4 (o3.trans (hO4.sub fun b hb => List.mem_append_right _ hb)) (hP3 H4 hO4 hB4)
      clear hO4 hO3 o3
      walk_at "go"
      exact q4
theorem x_qSetDown {T : Txt K mg} {kd : Kd} {C : Addr} {H : Hp} {Q : VK} {E : XK} {σ : L2.St} {r : Addr} {G : PG} {t : Ts} {s : St} {ta : TA} (hP : SP P w base T kd C H r G t s) (h : ta σ H fun vs H2 => spSetDownQ T P w base (.ref r :: vs) H2 Q E) : mtK P w K mg base (L2.CX P w) 8 "set_down" E σ ta Q (.ref r) H :=
  x_mtK hP.obj ⟨⟨_, _, _, hP.v.cl, hP.v.set_down, ok_Plain_set_down T, T.bd_Plain_set_down⟩⟩ (hP.lk (by rfl)) h
/-! ### sheets -/
def spNeedSheetQ (T : Txt K mg) (P : Program) (w : World) (base : Heap) : Sp := fun vs H Q E => ∃ (kd : Kd) (C r : Addr) (G : PG) (t : Ts) (s : St) (v : V) (o : Option Int), vs = [.ref r, v] ∧ SP P w base T kd C H r G t s ∧ Num v o ∧ (inB o 0 (t.s - 1) = true → Q .non H) ∧ (inB o 0 (t.s - 1) = false → FinR T .nosheet E H)
theorem ok_Plain_need_sheet (T : Txt K mg) : FO P w K mg base 3 T.a_Plain_need_sheet T.fd_Plain_need_sheet ["self", "sheet"] (spNeedSheetQ T P w base) := by
  have sc := sc_Plain_need_sheet
  refine T.F_Plain_need_sheet.okX sc (fun vs H Q E h => ?_) (fun cdv A outer s H vs Q E hr h => ?_)
  · obtain ⟨_, _, _, _, _, _, _, _, rfl, _⟩ := h
    rfl
  obtain ⟨kd, C, r, G, t, s, v, o, rfl, hP, hn, q1, q2⟩ := h
  refine ⟨_, (pss_one (ps_if (pt_not (pt_truth (pe_callS (ok_is_within T) (hr.mono (by decide)) (by rfl) T.g_is_within T.k_is_within T.bd_is_within (passAt (takes_of rfl rfl rfl rfl)) (pa_cons (pv 1) (pa_cons pe_int (pa_cons (pe_op op_sub (pe_fld (pe_fld (pv 0) rfl) rfl) pe_int) pa_nil)))) (by intro _; rfl))) (pss_one (ps_raiseK rfl (takes_of rfl rfl rfl rfl) (pmk_ownK T.xc_NoSheet T.g_NoSheet rfl))) pss_nil)), ?_⟩
  have vcl := hP.v.cl
  have vn2 := hP.v.n2
  have ho := hP.obj
  have hot := hP.terms
  unfold objF coreF at ho
  unfold termF at hot
  walk_at "begin"
  walk_at "go"
  refine x_wNum hn ?_
  walk_at "go"
  refine x_iteB (fun h => ?_) (fun h => ?_)
  · walk_at "go"
    exact q1 h
  · walk_at "go"
    exact q2 h
theorem x_qNeedSheet {T : Txt K mg} {kd : Kd} {C : Addr} {H : Hp} {Q : VK} {E : XK} {σ : L2.St} {r : Addr} {G : PG} {t : Ts} {s : St} {ta : TA} (hP : SP P w base T kd C H r G t s) (h : ta σ H fun vs H2 => spNeedSheetQ T P w base (.ref r :: vs) H2 Q E) : mtK P w K mg base (L2.CX P w) 3 "need_sheet" E σ ta Q (.ref r) H :=
  x_mtK hP.obj ⟨⟨_, _, _, hP.v.cl, hP.v.need_sheet, ok_Plain_need_sheet T, T.bd_Plain_need_sheet⟩⟩ (hP.lk (by rfl)) h
theorem x_needSheetQ {T : Txt K mg} {kd : Kd} {C : Addr} {H : Hp} {Q : VK} {E : XK} {r : Addr} {G : PG} {t : Ts} {s : St} {v : V} {o : Option Int} (hP : SP P w base T kd C H r G t s) (hn : Num v o) (q1 : inB o 0 (t.s - 1) = true → Q .non H) (q2 : inB o 0 (t.s - 1) = false → FinR T .nosheet E H) : spNeedSheetQ T P w base [.ref r, v] H Q E := ⟨kd, C, r, G, t, s, v, o, rfl, hP, hn, q1, q2⟩
def aHeld : Kd → Ts → St → VK → Hp → Hp → Prop := fun _ _ s Q H H' => ∀ p, H p = none → H' p = some (.lst ((heldL s.k).map V.int)) → Q (.ref p) H'
theorem ok_Plain_held (T : Txt K mg) : FO P w K mg base 3 T.a_Plain_held T.fd_Plain_held ["self"] (spAskQ T aHeld P w base) := by
  have sc := sc_Plain_held
  refine T.F_Plain_held.okX sc (fun vs H Q E h => spAskQ_len h) (fun cdv A outer s H vs Q E hr h => ?_)
  obtain ⟨kd, C, r, G, t, s, rfl, hP, q⟩ := h
  refine ⟨_, (pss_one (ps_ret (pe_methD0 (k := 2) (pe_fld (pv 0) rfl) (hr.mono (by decide)) (passAt (takes_of rfl rfl rfl rfl))))), ?_⟩
  have vcl := hP.v.cl
  have vn3 := hP.v.n3
  have ho := hP.obj
  unfold objF coreF at ho
  walk_at "begin"
  walk_at "go"
  exact x_mBHeld hP.book hP.wf.bk fun p H' hs hp hn => q H' hs p hp hn
theorem x_qHeld {T : Txt K mg} {kd : Kd} {C : Addr} {H : Hp} {Q : VK} {E : XK} {σ : L2.St} {r : Addr} {G : PG} {t : Ts} {s : St} (hP : SP P w base T kd C H r G t s) (q : ∀ p H', Same H H' → H p = none → H' p = some (.lst ((heldL s.k).map V.int)) → Q (.ref p) H') : mtK P w K mg base (L2.CX P w) 3 "held" E σ tNil Q (.ref r) H :=
  x_mtK hP.obj ⟨⟨_, _, _, hP.v.cl, hP.v.held, ok_Plain_held T, T.bd_Plain_held⟩⟩ (hP.lk (by rfl)) ⟨kd, C, r, G, t, s, rfl, hP, fun H' hs p hp hn => q p H' hs hp hn⟩
/-! ### making room -/
theorem ne_plain {T : Txt K mg} {kd : Kd} {C : Addr} {H : Hp} {r : Addr} {G : PG} {t : Ts} {s : St} (hP : SP P w base T kd C H r G t s) (hk : kd ≠ .plain) : H r = some (.ins C G.dx (coreF G ++ ([("rule", .ref G.ru), ("papers", .ref G.pa)] : List (Str × V)))) := by
  have := hP.obj
  unfold objF at this
  rw [restF_store hk] at this
  exact this
def spAskS (T : Txt K mg) (f : Kd → Ts → St → VK → Hp → Hp → Prop) (P : Program) (w : World) (base : Heap) : Sp := fun vs H Q _ => ∃ (kd : Kd) (C r : Addr) (G : PG) (t : Ts) (s : St), vs = [.ref r] ∧ kd ≠ .plain ∧ SP P w base T kd C H r G t s ∧ ∀ H', Same H H' → f kd t s Q H H'
theorem spAskS_len {T : Txt K mg} {f : Kd → Ts → St → VK → Hp → Hp → Prop} {vs : List V} {H : Hp} {Q : VK} {E : XK} (h : spAskS T f P w base vs H Q E) : vs.length = 1 := by
  obtain ⟨_, _, _, _, _, _, rfl, _⟩ := h
  rfl
def aSpace : Kd → Ts → St → VK → Hp → Hp → Prop := fun kd t s Q _ H' => Q (.int (spaceQ kd t s.q s.k)) H'
theorem ok_Store_space (T : Txt K mg) : FO P w K mg base 8 T.a_Store_space T.fd_Store_space ["self"] (spAskS T aSpace P w base) := by
  have sc := sc_Store_space
  refine T.F_Store_space.okX sc (fun vs H Q E h => spAskS_len h) (fun cdv A outer s H vs Q E hr h => ?_)
  obtain ⟨kd, C, r, G, t, s, rfl, hk, hP, q⟩ := h
  refine ⟨_, (pss_cons (ps_if (pt_cmpR op_ge (pe_callB (cr_ulen) (by rfl) T.b_len bt_len (pa_cons (pe_methD0 (k := 6) (pv 0) (hr.mono (by decide)) (passAt (takes_of rfl rfl rfl rfl))) pa_nil)) (pe_methD0 (k := 7) (pv 0) (hr.mono (by decide)) (passAt (takes_of rfl rfl rfl rfl))) (nomark _)) (pss_one (ps_ret (pe_fld (pe_fld (pv 0) rfl) rfl))) pss_nil)
      (pss_cons (ps_set (i := 1) sc.nd rfl (by first | exact Or.inl rfl | exact Or.inr rfl) (pe_methD0 (k := 6) (pv 0) (hr.mono (by decide)) (passAt (takes_of rfl rfl rfl rfl))))
      (pss_cons (ps_if (pt_cmpR op_uIs (pv 1) pe_non (nomark _)) (pss_one (ps_ret pe_int)) pss_nil)
      (pss_one (ps_ret (pe_op op_sub (pe_fld (pe_fld (pv 0) rfl) rfl) (pe_ix ix_seq (pe_fld (pe_fld (pv 0) rfl) rfl) (pv 1) (fun _ _ => rfl)))))))), ?_⟩
  have vcl := hP.v.cl
  have vn2 := hP.v.n2
  have vn3 := hP.v.n3
  unfold aSpace spaceQ at q
  walk_at "begin"
  walk_at "if"
  refine x_qFree hP fun p H1 hs1 hp1 hn1 => ?_
  have hP1 := hP.mono hs1
  walk_at "go"
  rw [List.length_map, (sortP_perm _).length_eq]
  refine x_qRes hP1 fun H2 hs2 => ?_
  have hP2 := hP1.mono hs2
  have s02 := hs1.trans hs2
  have ho := hP2.obj
  have hot := hP2.terms
  unfold objF coreF at ho
  unfold termF at hot
  walk_at "go"
  refine x_iteD (fun h => ?_) (fun h => ?_)
  · walk_at "go"
    have := q H2 s02
    rw [if_pos h] at this
    exact this
  · walk_at "go"
    refine x_qPart hP2 fun H3 hs3 => ?_
    have hP3 := hP2.mono hs3
    have s03 := s02.trans hs3
    have q3 := fun H' hs => q H' hs
    walk_at "go"
    walk_at "if"
    cases hpo : partQ s.q s.k with
    | none =>
      refine iteT ?_
      walk_at "go"
      have := q H3 s03
      rw [if_neg h, hpo] at this
      exact this
    | some n =>
      refine iteF ?_
      have ho := hP3.obj
      have hot := hP3.terms
      have hob := hP3.book.obj
      have hfl := hP3.book.fl
      have zf := hP3.wf.bk.fil
      have ekb := hP3.wf.kb
      unfold objF coreF at ho
      unfold termF at hot
      unfold bookF at hob
      have hn := (partQ_mem hpo).1
      have hn2 : ((n : Nat) : Int) < s.k.fil.length := by omega
      dsimp only [oV]
      walk_at "go"
      rw [Int.toNat_natCast]
      have := q H3 s03
      rw [if_neg h, hpo] at this
      exact this
theorem x_qSpace {T : Txt K mg} {kd : Kd} {C : Addr} {H : Hp} {Q : VK} {E : XK} {σ : L2.St} {r : Addr} {G : PG} {t : Ts} {s : St} (hk : kd ≠ .plain) (hP : SP P w base T kd C H r G t s) (q : ∀ H', Same H H' → Q (.int (spaceQ kd t s.q s.k)) H') : mtK P w K mg base (L2.CX P w) 8 "space" E σ tNil Q (.ref r) H :=
  x_mtK hP.obj ⟨⟨_, _, _, hP.v.cl, hP.v.space hk, ok_Store_space T, T.bd_Store_space⟩⟩ (hP.lk (by rfl)) ⟨kd, C, r, G, t, s, rfl, hk, hP, q⟩
/-! tallies -/
def spTallyQ (T : Txt K mg) (P : Program) (w : World) (base : Heap) : Sp := fun vs H Q _ => ∃ (kd : Kd) (C r : Addr) (G : PG) (t : Ts) (s : St) (n : Nat), vs = [.ref r, .int (n : Int)] ∧ SP P w base T kd C H r G t s ∧ n < s.q.b.toNat ∧ ∀ p H', Same H H' → H p = none → H' p = some (.tup (tallyQ s.q s.k n).vs) → Q (.ref p) H'
theorem ok_Store_tally (T : Txt K mg) : FO P w K mg base 5 T.a_Store_tally T.fd_Store_tally ["self", "block"] (spTallyQ T P w base) := by
  have sc := sc_Store_tally
  refine T.F_Store_tally.okX sc (fun vs H Q E h => ?_) (fun cdv A outer s H vs Q E hr h => ?_)
  · obtain ⟨_, _, _, _, _, _, _, rfl, _⟩ := h
    rfl
  obtain ⟨kd, C, r, G, t, s, n, rfl, hP, hn, q⟩ := h
  refine ⟨_, (pss_one (ps_ret (pe_tup (pa_cons (pv 1) (pa_cons (pe_ix ix_seq (pe_fld (pe_fld (pv 0) rfl) rfl) (pv 1) (fun _ _ => rfl)) (pa_cons (pe_methD (k := 4) (pe_fld (pv 0) rfl) (hr.mono (by decide)) (passAt (takes_of rfl rfl rfl rfl)) (pa_cons (pv 1) pa_nil)) (pa_cons (pe_ix ix_seq (pe_fld (pe_fld (pv 0) rfl) rfl) (pv 1) (fun _ _ => rfl)) pa_nil))))))), ?_⟩
  have vcl := hP.v.cl
  have vn1 := hP.v.n1
  have vn3 := hP.v.n3
  have ho := hP.obj
  have hob := hP.book.obj
  have hlv := hP.book.lv
  have hbn := hP.book.bn
  have zl := hP.wf.bk.live
  have zb := hP.wf.bk.born
  have ekb := hP.wf.kb
  have hbb := hP.wf.bk.b
  obtain ⟨st, hC, _⟩ := hP.chip
  unfold objF coreF at ho
  unfold bookF at hob
  have hn1 : ((n : Nat) : Int) < s.k.live.length := by omega
  have hn2 : ((n : Nat) : Int) < s.k.born.length := by omega
  walk_at "begin"
  walk_at "go"
  rw [Int.toNat_natCast]
  refine x_mCleared hC ?_
  walk_at "go"
  refine x_cleared hC ?_ ⟨by omega, by show (n : Int) < s.q.b; omega⟩
  rw [Int.toNat_natCast]
  show _
  walk_at "go"
  rename_i p H1 hp hs1 hn1
  exact q p H1 hs1 hp hn1
theorem x_qTally {T : Txt K mg} {kd : Kd} {C : Addr} {H : Hp} {Q : VK} {E : XK} {σ : L2.St} {r : Addr} {G : PG} {t : Ts} {s : St} {ta : TA} (hk : kd ≠ .plain) (hP : SP P w base T kd C H r G t s) (h : ta σ H fun vs H2 => spTallyQ T P w base (.ref r :: vs) H2 Q E) : mtK P w K mg base (L2.CX P w) 5 "tally" E σ ta Q (.ref r) H :=
  x_mtK hP.obj ⟨⟨_, _, _, hP.v.cl, hP.v.tally hk, ok_Store_tally T, T.bd_Store_tally⟩⟩ (hP.lk (by rfl)) h
theorem filt1 {α : Type} {f : α → Bool} {l : List α} {x : α} : (l ++ [x]).filter f = if f x = true then l.filter f ++ [x] else l.filter f := by
  rw [List.filter_append]
  split
  · rename_i h; rw [List.filter_cons_of_pos h]; rfl
  · rename_i h; rw [List.filter_cons_of_neg h, List.filter_nil, List.append_nil]
def fullN (kd : Kd) (t : Ts) (q : Pc) (k : Bk) (ns : List Nat) : List Tal := (ns.filter fun n => decide (k.fil.getD n 0 = t.p) && decide (k.live.getD n 0 ≤ spaceQ kd t q k)).map (tallyQ q k)
theorem fullN_snoc {kd : Kd} {t : Ts} {q : Pc} {k : Bk} {ns : List Nat} {n : Nat} : fullN kd t q k (ns ++ [n]) = if (decide (k.fil.getD n 0 = t.p) && decide (k.live.getD n 0 ≤ spaceQ kd t q k)) = true then fullN kd t q k ns ++ [tallyQ q k n] else fullN kd t q k ns := by
  unfold fullN
  rw [filt1]
  split
  · rw [List.map_append]
    rfl
  · rfl
theorem fullN_len {kd : Kd} {t : Ts} {q : Pc} {k : Bk} {ns : List Nat} : (fullN kd t q k ns).length ≤ ns.length := by
  unfold fullN
  rw [List.length_map]
  exact List.length_filter_le _ _
theorem fullQ_len {kd : Kd} {t : Ts} {q : Pc} {k : Bk} : (fullQ kd t q k).length ≤ q.b.toNat := Nat.le_trans (fullN_len (kd := kd) (t := t) (q := q) (k := k) (ns := goodQ q)) goodQ_len
theorem fullQ_mem {kd : Kd} {t : Ts} {q : Pc} {k : Bk} {u : Tal} (h : u ∈ fullQ kd t q k) : ∃ n : Nat, u = tallyQ q k n ∧ n < q.b.toNat ∧ q.broken.getD n false = false ∧ k.fil.getD n 0 = t.p ∧ k.live.getD n 0 ≤ spaceQ kd t q k := by
  unfold fullQ at h
  obtain ⟨n, hn, rfl⟩ := List.mem_map.mp h
  have h1 := List.mem_filter.mp hn
  have h2 := Bool.and_eq_true_iff.mp h1.2
  have h3 := List.mem_filter.mp h1.1
  exact ⟨n, rfl, List.mem_range.mp h3.1, by simpa using h3.2, of_decide_eq_true h2.1, of_decide_eq_true h2.2⟩
def aFull : Kd → Ts → St → VK → Hp → Hp → Prop := fun kd t s Q H H' => ∀ p, H p = none → TL H' p (fullQ kd t s.q s.k) → Q (.ref p) H'
theorem ok_Store_full_ones (T : Txt K mg) : FO P w K mg base 9 T.a_Store_full_ones T.fd_Store_full_ones ["self"] (spAskS T aFull P w base) := by
  have sc := sc_Store_full_ones
  refine T.F_Store_full_ones.okX sc (fun vs H Q E h => spAskS_len h) (fun cdv A outer s H vs Q E hr h => ?_)
  obtain ⟨kd, C, r, G, t, s, rfl, hk, hP, q⟩ := h
  refine ⟨_, (pss_cons (ps_set (i := 1) sc.nd rfl (by first | exact Or.inl rfl | exact Or.inr rfl) (pe_methD0 (k := 8) (pv 0) (hr.mono (by decide)) (passAt (takes_of rfl rfl rfl rfl))))
      (pss_cons (ps_set (i := 2) sc.nd rfl (by first | exact Or.inl rfl | exact Or.inr rfl) (pe_lst pa_nil))
      (pss_cons (ps_for (passes_of rfl) rfl (pi_list (pe_methD0 (k := 5) (pv 0) (hr.mono (by decide)) (passAt (takes_of rfl rfl rfl rfl)))) (pg_name (i := 3) sc.nd rfl (by first | exact Or.inl rfl | exact Or.inr rfl)) (pss_one (ps_if (PW.pt (pw_and (pt_cmpR (op_uEq hr.units) (pe_ix ix_seq (pe_fld (pe_fld (pv 0) rfl) rfl) (pv 3) (fun _ _ => rfl)) (pe_fld (pe_fld (pv 0) rfl) rfl) (nomark _)) (pw_and1 (pt_cmpR op_le (pe_ix ix_seq (pe_fld (pe_fld (pv 0) rfl) rfl) (pv 3) (fun _ _ => rfl)) (pv 1) (nomark _))))) (pss_one (ps_expr (pe_bm PySem.F.plainAttrs_list PySem.F.slot_list_append PySem.F.type_list_append mt_append (pv 2) (pa_cons (pe_methD (k := 5) (pv 0) (hr.mono (by decide)) (passAt (takes_of rfl rfl rfl rfl)) (pa_cons (pv 3) pa_nil)) pa_nil)))) pss_nil)))
      (pss_one (ps_ret (pv 2)))))), ?_⟩
  have vcl := hP.v.cl
  have vn2 := hP.v.n2
  have vn3 := hP.v.n3
  have hbb := hP.wf.bk.b
  have ekb := hP.wf.kb
  walk_at "begin"
  walk_at "go"
  refine x_qSpace hk hP fun H1 hs1 => ?_
  have hP1 := hP.mono hs1
  walk_at "go"
  rename_i p H2 hp hs2 hn2
  have hP2 := hP1.mono hs2
  refine x_seq ?_
  walk_at "go"
  refine x_qGood hP2 fun g H3 hs3 hg3 hn3 => ?_
  have hpne : p ≠ g := ne_of_none hn2 hg3
  have s03 : Same H H3 := (hs1.trans hs2).trans hs3
  have hp0 : H p = none := same_none hs1 hp
  refine x_frL (SqL.of hn3) (fun i σ H' => Same H H' ∧ H' g = some (.lst (natsV (goodQ s.q))) ∧ (∃ v3 : Option V, σ = [some (.ref r), some (.int (spaceQ kd t s.q s.k)), some (.ref p), v3]) ∧ ∃ xs, H' p = some (.lst xs) ∧ TAll H' xs (fullN kd t s.q s.k ((goodQ s.q).take i)))
    ⟨s03, hn3, ⟨_, rfl⟩, [], hs3 _ _ hn2, TAll.nil⟩ (fun i σ H' _ h => SqL.of h.2.1) ?_ ?_
  · intro i x σ H' hx ⟨sH, hg', ⟨v3, hσ⟩, xs, hxs, hpl⟩
    subst hσ
    unfold natsV at hx
    rw [List.getElem?_map] at hx
    cases he : (goodQ s.q)[i]? with
    | none => rw [he] at hx; simp at hx
    | some n =>
      rw [he] at hx
      simp at hx
      subst hx
      have hP' := hP.mono sH
      have ho := hP'.obj
      have hot := hP'.terms
      have hob := hP'.book.obj
      have hfl := hP'.book.fl
      have hlv := hP'.book.lv
      have zf := hP'.wf.bk.fil
      have zl := hP'.wf.bk.live
      unfold objF coreF at ho
      unfold termF at hot
      unfold bookF at hob
      have hn := goodQ_lt (List.mem_of_getElem? he)
      have hn2 : ((n : Nat) : Int) < s.k.fil.length := by omega
      have hn3 : ((n : Nat) : Int) < s.k.live.length := by omega
      have hxl : xs.length < sizeLine := Nat.lt_of_le_of_lt (show xs.length ≤ 1000 by
        rw [hpl.1]
        have l1 := fullN_len (kd := kd) (t := t) (q := s.q) (k := s.k) (ns := (goodQ s.q).take i)
        have l2 : ((goodQ s.q).take i).length ≤ (goodQ s.q).length := by rw [List.length_take]; exact Nat.min_le_right _ _
        have l3 := goodQ_len (q := s.q)
        omega) (by decide)
      rw [List.take_add_one, he]
      show _
      have sn := fullN_snoc (kd := kd) (t := t) (q := s.q) (k := s.k) (ns := (goodQ s.q).take i) (n := n)
      have skip : (decide (s.k.fil.getD n 0 = t.p) && decide (s.k.live.getD n 0 ≤ spaceQ kd t s.q s.k)) = false → Same H H' ∧ H' g = some (.lst (natsV (goodQ s.q))) ∧ (∃ v3 : Option V, [some (V.ref r), some (.int (spaceQ kd t s.q s.k)), some (.ref p), some (.int (n : Int))] = [some (.ref r), some (.int (spaceQ kd t s.q s.k)), some (.ref p), v3]) ∧ ∃ xs, H' p = some (.lst xs) ∧ TAll H' xs (fullN kd t s.q s.k ((goodQ s.q).take i ++ [n])) := fun h => ⟨sH, hg', ⟨_, rfl⟩, xs, hxs, by rw [sn, if_neg (by rw [h]; decide)]; exact hpl⟩
      walk_at "go"
      rw [Int.toNat_natCast]
      refine x_iteD (fun h1 => ?_) (fun h1 => ?_)
      · walk_at "go"
        rw [Int.toNat_natCast]
        refine x_iteD (fun h2 => ?_) (fun h2 => ?_)
        · walk_at "go"
          refine x_qTally hk hP' ?_
          walk_at "go"
          refine ⟨kd, C, r, G, t, s, n, rfl, hP', hn, fun q1 H4 hs4 hq1 hn4 => ?_⟩
          have hxs4 := hs4 _ _ hxs
          walk_at "go"
          rename_i H5 hO5 hI5
          have tS := hO5.tupsL hxs4
          refine ⟨Off.same1 (sH.trans hs4) hO5 hp0, hO5.at (hs4 _ _ hg') (nin_of hpne.symm), ⟨_, rfl⟩, _, hI5, ?_⟩
          show TAll H5 _ (fullN kd t s.q s.k ((goodQ s.q).take i ++ [n]))
          rw [sn, if_pos (by rw [decide_eq_true h1, decide_eq_true h2]; rfl)]
          exact ((hpl.mono (TupS.of hs4)).mono tS).snoc ⟨q1, rfl, tS _ _ hn4⟩
        · walk_at "go"
          exact skip (by rw [decide_eq_false h2, Bool.and_false])
      · walk_at "go"
        exact skip (by rw [decide_eq_false h1, Bool.false_and])
  · intro σ H' ⟨sH, hg', ⟨v3, hσ⟩, xs, hxs, hpl⟩
    subst hσ
    unfold natsV at hpl
    rw [List.length_map, List.take_length] at hpl
    walk_at "go"
    exact q H' sH p hp0 ⟨xs, hxs, hpl⟩
theorem x_qFull {T : Txt K mg} {kd : Kd} {C : Addr} {H : Hp} {Q : VK} {E : XK} {σ : L2.St} {r : Addr} {G : PG} {t : Ts} {s : St} (hk : kd ≠ .plain) (hP : SP P w base T kd C H r G t s) (q : ∀ p H', Same H H' → H p = none → TL H' p (fullQ kd t s.q s.k) → Q (.ref p) H') : mtK P w K mg base (L2.CX P w) 9 "full_ones" E σ tNil Q (.ref r) H :=
  x_mtK hP.obj ⟨⟨_, _, _, hP.v.cl, hP.v.full_ones hk, ok_Store_full_ones T, T.bd_Store_full_ones⟩⟩ (hP.lk (by rfl)) ⟨kd, C, r, G, t, s, rfl, hk, hP, fun H' hs p hp hn => q p H' hs hp hn⟩
/-! options, otherwise, choice -/
def aOptS : Kd → Ts → St → VK → Hp → Hp → Prop := fun kd t s Q H H' => ∀ p, H p = none → TL H' p ((fullQ kd t s.q s.k).filter fun u => decide (u.l < t.p)) → Q (.ref p) H'
theorem ok_Store_options (T : Txt K mg) : FO P w K mg base 11 T.a_Store_options T.fd_Store_options ["self"] (spAskS T aOptS P w base) := by
  have sc := sc_Store_options
  refine T.F_Store_options.okX sc (fun vs H Q E h => spAskS_len h) (fun cdv A outer s H vs Q E hr h => ?_)
  obtain ⟨kd, C, r, G, t, s, rfl, hk, hP, q⟩ := h
  refine ⟨_, (pss_one (ps_ret (pe_lc (own := [("tally", 1)]) (by rfl) sc.nd (pi_list (pe_methD0 (k := 9) (pv 0) (hr.mono (by decide)) (passAt (takes_of rfl rfl rfl rfl)))) (blkOk_by (own := [("tally", 1)]) (N := N_Store_options) (sc := defScope s_Store_options) (by decide +kernel)) (fun _ _ _ _ _ => (pg_name (i := 1) sc.nd rfl (by first | exact Or.inl rfl | exact Or.inr rfl))) (fun _ _ _ _ _ => (pts_one (pt_cmpR op_uLt (pe_ix (K_ix (K := K)) (pv 1) pe_int (fun _ _ => rfl)) (K_fld (K := K) (K_fld (K := K) (pv 0) rfl) rfl) (nomark _)))) (fun _ _ _ _ _ => (pv 1))))), ?_⟩
  have vcl := hP.v.cl
  have vn2 := hP.v.n2
  have hbb := hP.wf.bk.b
  have ekb := hP.wf.kb
  walk_at "begin"
  walk_at "go"
  refine x_qFull hk hP fun p H1 hs1 hp1 ⟨vs, hvs, hall⟩ => ?_
  have ho := hs1 _ _ hP.obj
  have hot := hs1 _ _ hP.terms
  unfold objF coreF at ho
  unfold termF at hot
  refine x_lcLK (SqL.of hvs) (fun i acc H' => TAll H' acc (((fullQ kd t s.q s.k).take i).filter fun u => decide (u.l < t.p))) (fun i acc H H' s h => h.mono s) (Nat.lt_of_le_of_lt (show vs.length ≤ 1000 by rw [hall.1]; have := fullQ_len (kd := kd) (t := t) (q := s.q) (k := s.k); omega) (by decide)) TAll.nil ?_ ?_
  · intro i x acc H2 hx hs2 ha NY NN hY hN
    obtain ⟨u, hu, a, rfl, hxa⟩ := hall.get hx
    have hxa2 := hs2 _ _ hxa
    have ho2 := hs2 _ _ ho
    have hot2 := hs2 _ _ hot
    unfold Tal.vs at hxa2
    dsimp only [wipe]
    walk_at "go"
    refine ⟨rfl, ?_⟩
    walk_at "go"
    have ek : (fullQ kd t s.q s.k).take (i + 1) = (fullQ kd t s.q s.k).take i ++ [u] := by rw [List.take_add_one, hu]; rfl
    refine x_iteD (fun h => ?_) (fun h => ?_)
    · walk_at "go"
      refine hY _ _ (fun _ _ h => h) ?_
      show TAll _ (acc ++ [_]) _
      rw [ek, filt1, if_pos (decide_eq_true h)]
      exact ha.snoc ⟨a, rfl, hs2 _ _ hxa⟩
    · refine hN _ (fun _ _ h => h) ?_
      show TAll _ acc _
      rw [ek, filt1, if_neg (by rw [decide_eq_false h]; decide)]
      exact ha
  · intro p2 acc H2 hp2 hs2 hn2 ha
    rw [hall.1, List.take_length] at ha
    exact q H2 (hs1.trans hs2) p2 (same_none hs1 hp2) ⟨acc, hn2, ha⟩
def spOthS (T : Txt K mg) : Sp := fun vs H _ E => ∃ v, vs = [v] ∧ FinR T .noroom E H
theorem ok_Store_otherwise (T : Txt K mg) : FO P w K mg base 11 T.a_Store_otherwise T.fd_Store_otherwise ["self"] (spOthS T) := by
  have sc := sc_Store_otherwise
  refine T.F_Store_otherwise.okX sc (fun vs H Q E h => ?_) (fun cdv A outer s H vs Q E hr h => ?_)
  · obtain ⟨_, rfl, _⟩ := h
    rfl
  obtain ⟨v, rfl, q⟩ := h
  refine ⟨_, (pss_one (ps_raiseK rfl (takes_of rfl rfl rfl rfl) (pmk_ownK T.xc_NoRoom T.g_NoRoom rfl))), ?_⟩
  walk_at "begin"
  walk_at "go"
  exact q
/-! ### the choice -/
theorem optsQ_sub {kd : Kd} {t : Ts} {q : Pc} {k : Bk} {u : Tal} (h : u ∈ optsQ kd t q k) : u ∈ fullQ kd t q k ∧ u.l < t.p := by
  cases kd with
  | plain => cases h
  | store => exact ⟨(List.mem_filter.mp h).1, of_decide_eq_true (List.mem_filter.mp h).2⟩
  | even => exact ⟨(List.mem_filter.mp (List.mem_filter.mp h).1).1, of_decide_eq_true (List.mem_filter.mp h).2⟩
  | sure => exact ⟨(List.mem_filter.mp (List.mem_filter.mp h).1).1, of_decide_eq_true (List.mem_filter.mp h).2⟩
theorem optsQ_len {kd : Kd} {t : Ts} {q : Pc} {k : Bk} : (optsQ kd t q k).length ≤ q.b.toNat := by
  cases kd with
  | plain => exact Nat.zero_le _
  | store => exact Nat.le_trans (List.length_filter_le _ _) fullQ_len
  | even => exact Nat.le_trans (List.length_filter_le _ _) (Nat.le_trans (List.length_filter_le _ _) fullQ_len)
  | sure => exact Nat.le_trans (List.length_filter_le _ _) (Nat.le_trans (List.length_filter_le _ _) fullQ_len)
theorem x_qOpts {T : Txt K mg} {kd : Kd} {C : Addr} {H : Hp} {Q : VK} {E : XK} {σ : L2.St} {r : Addr} {G : PG} {t : Ts} {s : St} (hk : kd ≠ .plain) (hP : SP P w base T kd C H r G t s) (q : ∀ p H', Same H H' → H p = none → TL H' p (optsQ kd t s.q s.k) → Q (.ref p) H') : mtK P w K mg base (L2.CX P w) 11 "options" E σ tNil Q (.ref r) H := by
  have hok := hP.v.ok
  have hm := hP.v.options hk
  cases kd with
  | plain => exact absurd rfl hk
  | store =>
    exact x_mtK hP.obj ⟨⟨_, _, _, hP.v.cl, hm, ok_Store_options T, T.bd_Store_options⟩⟩ (hP.lk (by rfl)) ⟨.store, C, r, G, t, s, rfl, hk, hP, fun H' hs p hp hn => q p H' hs hp hn⟩
  | even =>
    exact hok.elim
  | sure =>
    exact hok.elim
theorem x_qOth {T : Txt K mg} {kd : Kd} {C : Addr} {H : Hp} {Q : VK} {E : XK} {σ : L2.St} {r : Addr} {G : PG} {t : Ts} {s : St} (hk : kd ≠ .plain) (hP : SP P w base T kd C H r G t s) (q : ∀ H', Same H H' → (match otherQ kd t s.q s.k with
    | none => FinR T .noroom E H'
    | some b => ∀ p, H p = none → H' p = some (.tup [.str "even", .int b]) → Q (.ref p) H')) : mtK P w K mg base (L2.CX P w) 11 "otherwise" E σ tNil Q (.ref r) H := by
  have hok := hP.v.ok
  have hm := hP.v.otherwise hk
  cases kd with
  | plain => exact absurd rfl hk
  | store =>
    exact x_mtK hP.obj ⟨⟨_, _, _, hP.v.cl, hm, ok_Store_otherwise T, T.bd_Store_otherwise⟩⟩ (hP.lk (by rfl)) ⟨_, rfl, q H fun _ _ h => h⟩
  | even =>
    exact hok.elim
  | sure =>
    exact hok.elim
/-- a rule's state is another one -/
theorem SP.ruleC {T : Txt K mg} {kd : Kd} {C : Addr} {H H' : Hp} {r : Addr} {G : PG} {t : Ts} {s : St} (h : SP P w base T kd C H r G t s) (hk : kd ≠ .plain) {R : Rl} (o : Off G.rf H H') (hR : RlAt P w K mg base H' G.rf G.ru R) : SP P w base T kd C H' r G t { s with ru := R } := by
  have tt := tups_of (h.rule hk).there o
  have na : ∀ a ∈ G.rf, a ∈ G.all kd := fun a ha => by rw [PG.all_store hk]; exact List.mem_append_right _ (List.mem_cons_of_mem _ ha)
  have far : ∀ {a : Addr} {x : HO}, a ∉ G.all kd → H a = some x → H' a = some x := fun ha hx => o.at hx (fun z => ha (na _ z))
  have mr : ∀ a ∈ G.mut, a ∉ G.rf := fun a ha z => ((h.np hk).2 a z).1 ha
  exact ⟨h.v, far h.nr h.obj, h.chip.off o (fun a ha => mr a (List.mem_append_left _ ha)) tt, far h.nt h.terms, h.book.off o (fun a ha => mr a (List.mem_append_right _ ha)), fun _ => hR, fun hk => (h.pap hk).at (fun _ e => o.at e (fun z => ((h.np hk).2 _ z).2 rfl)) (fun a ha _ => far (h.nf hk a ha).1) tt, h.wf, h.tb, h.nr, h.nt, h.cb, h.np, h.nf, fun hk a ha => (h.fa hk a ha).imp fun _ => far (h.nf hk a ha).1⟩
theorem full_tok {kd : Kd} {t : Ts} {s : St} (hw : Wf s.q s.k) (tb : t.p = s.q.p) (hf : Fits s) {u : Tal} (h : u ∈ fullQ kd t s.q s.k) : TOk t.p s.k.stamp u := by
  obtain ⟨n, rfl, hn, hb, h1, h2⟩ := fullQ_mem h
  have l := hw.live_le hn
  have c := hw.cb n
  have b := hw.bn n
  have z := hw.bk.b
  have e := hw.kb
  have e2 := hw.kp
  have hlog := hf.1
  refine ⟨Int.natCast_nonneg _, by show (n : Int) < 16; omega, l.1, by show s.k.live.getD n 0 ≤ t.p; omega, c.1, ?_, b.1, b.2⟩
  show s.q.clr.getD n 0 < 10 ^ 30
  exact Int.lt_of_le_of_lt c.2 (Int.lt_trans (show (s.q.log.length : Int) < 900000 by omega) (by decide))
def spChoiceQ (T : Txt K mg) (P : Program) (w : World) (base : Heap) : Sp := fun vs H Q E => ∃ (kd : Kd) (C r : Addr) (G : PG) (t : Ts) (s : St), vs = [.ref r] ∧ kd ≠ .plain ∧ SP P w base T kd C H r G t s ∧ Fits s ∧ ∀ H', Off G.rf H H' → SP P w base T kd C H' r G t { s with ru := (choiceQ kd t s).2 } → (match (choiceQ kd t s).1 with
    | none => FinR T .noroom E H'
    | some e => ∀ p, H p = none → H' p = some (.tup [.str e.1, .int e.2]) → Q (.ref p) H')
theorem ok_Store_choice (T : Txt K mg) : FO P w K mg base 21 T.a_Store_choice T.fd_Store_choice ["self"] (spChoiceQ T P w base) := by
  have sc := sc_Store_choice
  refine T.F_Store_choice.okX sc (fun vs H Q E h => ?_) (fun cdv A outer s H vs Q E hr h => ?_)
  · obtain ⟨_, _, _, _, _, _, rfl, _⟩ := h
    rfl
  obtain ⟨kd, C, r, G, t, s, rfl, hk, hP, hf, q⟩ := h
  refine ⟨_, (pss_cons (ps_set (i := 1) sc.nd rfl (by first | exact Or.inl rfl | exact Or.inr rfl) (pe_methD0 (k := 11) (pv 0) (hr.mono (by decide)) (passAt (takes_of rfl rfl rfl rfl))))
      (pss_cons (ps_if (pt_cmpR (op_uEq hr.units) (pv 1) (pe_lst pa_nil) (nomark _)) (pss_one (ps_ret (pe_methD0 (k := 11) (pv 0) (hr.mono (by decide)) (passAt (takes_of rfl rfl rfl rfl))))) pss_nil)
      (pss_one (ps_ret (pe_tup (pa_cons pe_str (pa_cons (pe_methD (k := 20) (pe_fld (pv 0) rfl) (hr.mono (by decide)) (passAt (takes_of rfl rfl rfl rfl)) (pa_cons (pv 1) (pa_cons (pe_fld (pe_fld (pv 0) rfl) rfl) (pa_cons (pe_fld (pe_fld (pv 0) rfl) rfl) pa_nil)))) pa_nil))))))), ?_⟩
  have vcl := hP.v.cl
  have vn2 := hP.v.n2
  have vn3 := hP.v.n3
  have vn4 := hP.v.n4 hk
  have hbb := hP.wf.bk.b
  have ekb := hP.wf.kb
  have hpp := hP.wf.bk.p
  have ekp := hP.wf.kp
  have hst := hP.wf.bk.st
  unfold choiceQ at q
  walk_at "begin"
  walk_at "go"
  refine x_qOpts hk hP fun p H1 hs1 hp1 hTL => ?_
  walk_at "go"
  walk_at "if"
  rename_i p2 H2 hp2 hs2 hn2
  refine TL.eqNil (hTL.mono hs2) hn2 ?_
  have s02 := hs1.trans hs2
  have hP2 := hP.mono s02
  have hTL2 := hTL.mono hs2
  have hmem : ∀ u ∈ optsQ kd t s.q s.k, TOk t.p s.k.stamp u := fun u hu => full_tok hP.wf hP.tb.2 hf (optsQ_sub hu).1
  have hlen := optsQ_len (kd := kd) (t := t) (q := s.q) (k := s.k)
  cases hl : optsQ kd t s.q s.k with
  | nil =>
    rw [hl] at q
    walk_at "go"
    refine iteT ?_
    walk_at "go"
    refine x_qOth hk hP2 fun H3 hs3 => ?_
    have s03 := s02.trans hs3
    have q3 := q H3 (Off.of s03) (hP.mono s03)
    dsimp only at q3 ⊢
    cases ho : otherQ kd t s.q s.k with
    | none =>
      rw [ho] at q3
      exact q3
    | some b =>
      rw [ho] at q3
      exact fun p3 hp3 hn3 => q3 p3 (same_none s02 hp3) hn3
  | cons u us =>
    rw [hl] at q hTL2 hmem hlen
    have ho2 := ne_plain hP2 hk
    have hot2 := hP2.terms
    have hob2 := hP2.book.obj
    unfold coreF at ho2
    unfold termF at hot2
    unfold bookF at hob2
    walk_at "go"
    refine iteF ?_
    walk_at "go"
    refine x_rChoose (hP2.rule hk) fun CR hob hback => ?_
    walk_at "go"
    refine ⟨G.rf, G.ru, p, s.ru, u :: us, t.p, s.k.stamp, rfl, rfl, hob, hTL2, by simp, hmem, by omega, ⟨by have := hP.tb.2; omega, by have := hP.tb.2; omega, by have := hP.wf.bn 0; omega, hf.2.1⟩, fun H3 hO3 hob3 => ?_⟩
    have hR3 := hback _ _ hob3 kind_choose
    have hP3 := hP2.ruleC hk hO3 hR3
    walk_at "go"
    rename_i p4 H4 hp4 hs4 hn4
    have s24 : Off G.rf H H4 := ((Off.of s02).trans hO3).trans (Off.of hs4)
    refine q H4 s24 (hP3.mono hs4) p4 ?_ hn4
    cases hh : H p4 with
    | none => rfl
    | some o =>
      exfalso
      by_cases hm : p4 ∈ G.rf
      · obtain ⟨o', ho', _⟩ := hR3.there p4 hm
        rw [hp4] at ho'
        cases ho'
      · have := hO3.at (s02 _ _ hh) hm
        rw [hp4] at this
        cases this
theorem x_qChoice {T : Txt K mg} {kd : Kd} {C : Addr} {H : Hp} {Q : VK} {E : XK} {σ : L2.St} {r : Addr} {G : PG} {t : Ts} {s : St} (hk : kd ≠ .plain) (hP : SP P w base T kd C H r G t s) (hf : Fits s) (q : ∀ H', Off G.rf H H' → SP P w base T kd C H' r G t { s with ru := (choiceQ kd t s).2 } → (match (choiceQ kd t s).1 with
    | none => FinR T .noroom E H'
    | some e => ∀ p, H p = none → H' p = some (.tup [.str e.1, .int e.2]) → Q (.ref p) H')) : mtK P w K mg base (L2.CX P w) 21 "choice" E σ tNil Q (.ref r) H :=
  x_mtK hP.obj ⟨⟨_, _, _, hP.v.cl, hP.v.choice hk, ok_Store_choice T, T.bd_Store_choice⟩⟩ (hP.lk (by rfl)) ⟨kd, C, r, G, t, s, rfl, hk, hP, hf, q⟩
/-! ### the live pages of a block -/
def liveN (k : Bk) (n : Int) (i : Nat) : List (Int × Int) := ((List.range i).map fun j : Nat => n * k.p + (j : Int)).filterMap fun pg => match k.nm.getD pg.toNat .non with
  | .int m => some (pg, m)
  | _ => none
theorem liveN_snoc {k : Bk} {n : Int} {i : Nat} : liveN k n (i + 1) = (match k.nm.getD (n * k.p + (i : Int)).toNat .non with
    | .int m => liveN k n i ++ [(n * k.p + (i : Int), m)]
    | _ => liveN k n i) := by
  unfold liveN
  rw [List.range_succ, List.map_append, List.filterMap_append]
  show _ ++ List.filterMap _ [n * k.p + (i : Int)] = _
  rw [List.filterMap_cons]
  generalize k.nm.getD (n * k.p + (i : Int)).toNat .non = v
  cases v <;> simp
theorem liveN_len {k : Bk} {n : Int} {i : Nat} : (liveN k n i).length ≤ i := by
  unfold liveN
  refine Nat.le_trans (List.length_filterMap_le _ _) ?_
  rw [List.length_map, List.length_range]
  exact Nat.le_refl _
def spLivePages (T : Txt K mg) : Sp := fun vs H Q _ => ∃ (r : Addr) (F : BF) (k : Bk) (n : Int), vs = [.ref r, .int n] ∧ BookAt T.C_Book H r F k ∧ BkOk k ∧ (0 ≤ n ∧ n < k.b) ∧ (∀ pg : Nat, k.nm.getD pg .non = .non ∨ ∃ m : Int, k.nm.getD pg .non = .int m) ∧ ∀ p ws H', Same H H' → H p = none → H' p = some (.lst ws) → PairL H' ws (liveQ k n) → Q (.ref p) H'
theorem ok_Book_live_pages (T : Txt K mg) : FO P w K mg base 1 T.a_Book_live_pages T.fd_Book_live_pages ["self", "block"] (spLivePages T) := by
  have sc := sc_Book_live_pages
  refine T.F_Book_live_pages.okX sc (fun vs H Q E h => ?_) (fun cdv A outer s H vs Q E hr h => ?_)
  · obtain ⟨_, _, _, _, rfl, _⟩ := h
    rfl
  obtain ⟨r, F, k, n, rfl, hB, hk, hn, hnm, q⟩ := h
  refine ⟨_, (pss_cons (ps_set (i := 2) sc.nd rfl (by first | exact Or.inl rfl | exact Or.inr rfl) (pe_op op_uMul (pv 1) (pe_fld (pv 0) rfl)))
      (pss_cons (ps_set (i := 3) sc.nd rfl (by first | exact Or.inl rfl | exact Or.inr rfl) (pe_lst pa_nil))
      (pss_cons (ps_for (passes_of rfl) rfl (pi_range2 (by rfl) T.b_range (pa_cons (pv 2) (pa_cons (pe_op op_uAdd (pv 2) (pe_fld (pv 0) rfl)) pa_nil))) (pg_name (i := 4) sc.nd rfl (by first | exact Or.inl rfl | exact Or.inr rfl)) (pss_one (ps_if (pt_cmpR op_uIsNot (pe_ix ix_seq (pe_fld (pv 0) rfl) (pv 4) (fun _ _ => rfl)) pe_non (nomark _)) (pss_one (ps_expr (pe_bm PySem.F.plainAttrs_list PySem.F.slot_list_append PySem.F.type_list_append mt_append (pv 3) (pa_cons (pe_tup (pa_cons (pv 4) (pa_cons (pe_ix ix_seq (pe_fld (pv 0) rfl) (pv 4) (fun _ _ => rfl)) pa_nil))) pa_nil)))) pss_nil)))
      (pss_one (ps_ret (pv 3)))))), ?_⟩
  have hp := hk.p
  have hb := hk.b
  have ho := hB.obj
  have zn := hk.nm
  unfold bookF at ho
  have hs0 : n.natAbs < 2 ^ 250 ∧ k.p.natAbs < 2 ^ 250 := ⟨by omega, by omega⟩
  have m0 : 0 ≤ n * k.p := Int.mul_nonneg hn.1 (by omega)
  have m1 : n * k.p ≤ (k.b - 1) * k.p := Int.mul_le_mul_of_nonneg_right (by omega) (by omega)
  have m2 : k.b * k.p = (k.b - 1) * k.p + k.p := by rw [Int.sub_mul, Int.one_mul]; omega
  have m3 : k.b * k.p ≤ 16 * 16 := Int.mul_le_mul hb.2 hp.2 (by omega) (by decide)
  walk_at "begin"
  walk_at "go"
  rename_i p H1 hp1 hs1 hn1
  refine x_seq ?_
  walk_at "go"
  have e0 : (n * k.p + k.p - n * k.p).toNat = k.p.toNat := by omega
  refine x_frR2 (by omega) (fun i σ H' => ∃ (v4 : Option V) (ws : List V), σ = [some (.ref r), some (.int n), some (.int (n * k.p)), some (.ref p), v4] ∧ Same H H' ∧ H' p = some (.lst ws) ∧ PairL H' ws (liveN k n i))
    ⟨_, [], rfl, hs1, hn1, PairL.nil⟩ ?_ ?_
  · intro i σ H' hi ⟨v4, ws, hσ, sH, hp', hpl⟩
    subst hσ
    have ho' := sH _ _ ho
    have hnm' := sH _ _ hB.nm
    have hwl : ws.length < sizeLine := Nat.lt_of_le_of_lt (show ws.length ≤ 1000 by rw [hpl.1]; have := liveN_len (k := k) (n := n) (i := i); omega) (by decide)
    have hlt : 0 ≤ n * k.p + (i : Int) ∧ n * k.p + (i : Int) < k.nm.length := by omega
    have sn := liveN_snoc (k := k) (n := n) (i := i)
    walk_at "go"
    rcases hnm (n * k.p + (i : Int)).toNat with e | ⟨m, e⟩
    · rw [e] at sn ⊢
      walk_at "go"
      exact ⟨_, ws, rfl, sH, hp', by rw [sn]; exact hpl⟩
    · rw [e] at sn ⊢
      walk_at "go"
      refine iteF ?_
      walk_at "go"
      rename_i tp H3 htp hs3 hn3 H4 hO4 hI4
      have tS := hO4.tupsL (hs3 _ _ hp')
      rw [e] at hn3
      refine ⟨_, _, rfl, Off.same1 (sH.trans hs3) hO4 hp1, hI4, ?_⟩
      rw [sn]
      exact (hpl.mono ((TupS.of hs3).trans tS)).snoc ⟨tp, rfl, tS _ _ hn3⟩
  · intro σ H' ⟨v4, ws, hσ, sH, hp', hpl⟩
    subst hσ
    rw [e0] at hpl
    walk_at "go"
    exact q p ws H' sH hp1 hp' hpl
theorem x_mLivePages {T : Txt K mg} {H : Hp} {Q : VK} {E : XK} {σ : L2.St} {r : Addr} {F : BF} {k : Bk} {t : TA} (hB : BookAt T.C_Book H r F k) (h : t σ H fun vs H2 => spLivePages T (.ref r :: vs) H2 Q E) : mtK P w K mg base (L2.CX P w) 1 "live_pages" E σ t Q (.ref r) H :=
  x_mtK hB.obj ⟨⟨_, _, _, T.cl_Book, T.m_Book_live_pages, ok_Book_live_pages T, T.bd_Book_live_pages⟩⟩ rfl h
/-! ### what a page bears when it is moved -/
def spValueQ (T : Txt K mg) (P : Program) (w : World) (base : Heap) : Sp := fun vs H Q E => ∃ (kd : Kd) (C r : Addr) (G : PG) (t : Ts) (s : St) (pg n : Int), vs = [.ref r, .int pg, .int n] ∧ kd ≠ .plain ∧ SP P w base T kd C H r G t s ∧ (0 ≤ pg ∧ pg < s.q.b * s.q.p) ∧ (∃ e, s.q.ct.getD pg.toNat none = some e) ∧ ∀ H', Same H H' → if n ≠ 64 ∧ s.q.dark = true then FinR T .dark E H' else Q (.int (valueQ s pg n)) H'
theorem ok_Store_value_for (T : Txt K mg) : FO P w K mg base 5 T.a_Store_value_for T.fd_Store_value_for ["self", "page", "name"] (spValueQ T P w base) := by
  have sc := sc_Store_value_for
  refine T.F_Store_value_for.okX sc (fun vs H Q E h => ?_) (fun cdv A outer s H vs Q E hr h => ?_)
  · obtain ⟨_, _, _, _, _, _, _, _, rfl, _⟩ := h
    rfl
  obtain ⟨kd, C, r, G, t, s, pg, n, rfl, hk, hP, hpg, ⟨e, he⟩, q⟩ := h
  refine ⟨_, (pss_cons (ps_if (pt_cmpR (op_uEq hr.units) (pv 2) (pe_glob rfl T.g_ROLL T.r_ROLL) (nomark _)) (pss_one (ps_ret (pe_callS (ok_bits_of T) (hr.mono (by decide)) (by rfl) T.g_bits_of T.k_bits_of T.bd_bits_of (passAt (takes_of rfl rfl rfl rfl)) (pa_cons (pe_methD0 (k := 2) (pe_fld (pv 0) rfl) (hr.mono (by decide)) (passAt (takes_of rfl rfl rfl rfl))) pa_nil)))) pss_nil)
      (pss_one (ps_ret (pe_ix ix_seq (pe_methD (k := 4) (pe_fld (pv 0) rfl) (hr.mono (by decide)) (passAt (takes_of rfl rfl rfl rfl)) (pa_cons (pv 1) pa_nil)) pe_int (fun _ _ => rfl))))), ?_⟩
  have vcl := hP.v.cl
  have vn1 := hP.v.n1
  have vn3 := hP.v.n3
  have ho := hP.obj
  obtain ⟨st, hC, hst⟩ := hP.chip
  unfold objF coreF at ho
  unfold valueQ at q
  walk_at "begin"
  walk_at "if"
  refine x_iteD (fun h => ?_) (fun h => ?_)
  · walk_at "go"
    refine x_mBHeld hP.book hP.wf.bk fun p1 H1 hs1 hp1 hn1 => ?_
    walk_at "go"
    refine ⟨p1, heldL s.k, rfl, SqL.of hn1, fun m hm => ?_, ?_⟩
    · obtain ⟨⟨x, hx⟩, h64⟩ := heldL_mem.mp hm
      have := hP.wf.rng _ hx
      dsimp only at this
      omega
    have q1 := q H1 hs1
    rw [if_neg (fun z => z.1 h), if_pos h] at q1
    exact q1
  · walk_at "go"
    refine x_mRead hC ?_
    walk_at "go"
    refine ⟨G.rc, G.fc, s.q.toC st, _, some pg, rfl, hC, .int pg, fun hb => ?_, fun _ hd => ?_, fun _ hd => ?_⟩
    · exfalso
      have : inB (some pg) 0 ((s.q.toC st).b * (s.q.toC st).p - 1) = true := decide_eq_true ⟨hpg.1, by show pg ≤ s.q.b * s.q.p - 1; omega⟩
      rw [this] at hb
      cases hb
    · have q1 := q H fun _ _ h => h
      rw [if_pos ⟨h, hd⟩] at q1
      exact q1
    · have q1 := q H fun _ _ h => h
      rw [if_neg (fun z => by have z2 := z.2; rw [show s.q.dark = (s.q.toC st).dark from rfl, hd] at z2; cases z2), if_neg h, he] at q1
      have hl : pg.toNat < st.length := by
        rw [hst.1]
        have := hP.wf.ctl
        omega
      rcases hst.2 pg.toNat hl with ⟨z, _⟩ | ⟨a, m, x, z1, z2, z3⟩
      · rw [he] at z; cases z
      · rw [he] at z1
        injection z1 with z1
        subst z1
        rw [Option.getD_some, show (s.q.toC st).stuff = st from rfl, z2]
        refine x_ixT (SqT.of z3) ?_ q1
        rfl
theorem x_qValue {T : Txt K mg} {kd : Kd} {C : Addr} {H : Hp} {Q : VK} {E : XK} {σ : L2.St} {r : Addr} {G : PG} {t : Ts} {s : St} {ta : TA} (hk : kd ≠ .plain) (hP : SP P w base T kd C H r G t s) (h : ta σ H fun vs H2 => spValueQ T P w base (.ref r :: vs) H2 Q E) : mtK P w K mg base (L2.CX P w) 5 "value_for" E σ ta Q (.ref r) H :=
  x_mtK hP.obj ⟨⟨_, _, _, hP.v.cl, hP.v.value_for hk, ok_Store_value_for T, T.bd_Store_value_for⟩⟩ (hP.lk (by rfl)) h
/-! ### putting a value down, with no heap: what becomes of a store -/
theorem setDown_cases {s : St} {n v : Int} (hp : 1 ≤ s.q.p) : (spotQ s.q s.k = none ∧ setDown s n v = (.error .noroom, s)) ∨ ∃ pg m, Spot s.q s.k pg m ∧ spotQ s.q s.k = some pg ∧
    ((s.q.dark = true ∧ setDown s n v = (.error .dark, s)) ∨
     (s.q.dark = false ∧ s.q.well m false = true ∧ setDown s n v = (.ok pg, { s with q := { s.q.said m true ("put", pg) with ct := s.q.ct.set pg.toNat (some (mk s.k.stamp n, v)) }, k := s.k.note pg n })) ∨
     (s.q.dark = false ∧ s.q.well m false = false ∧ setDown s n v = (.error (.failed m), { s with q := s.q.said m false ("put", pg) }))) := by
  cases hs : spotQ s.q s.k with
  | none =>
    refine .inl ⟨rfl, ?_⟩
    unfold setDown
    rw [hs]
  | some pg =>
    obtain ⟨m, sp⟩ := spot_of hp hs
    refine .inr ⟨pg, m, sp, rfl, ?_⟩
    have e : setDown s n v = (match s.q.putP pg (mk s.k.stamp n, v) with
      | (none, q') => (.ok pg, { s with q := q', k := s.k.note pg n })
      | (some e, q') => (.error e, { s with q := q' })) := by unfold setDown; rw [hs] <;> try rfl
    have em : (pg / s.q.p).toNat = m := by rw [sp.blk, Int.toNat_natCast]
    rw [e]
    unfold Pc.putP
    rw [em, sp.blk]
    cases hd : s.q.dark with
    | true => exact .inl ⟨rfl, by rw [if_pos rfl]⟩
    | false =>
      rw [if_neg (by decide)]
      cases hw : s.q.well m false with
      | true => exact .inr (.inl ⟨rfl, rfl, by rw [if_pos rfl]⟩)
      | false => exact .inr (.inr ⟨rfl, rfl, by rw [if_neg (by decide)]⟩)
theorem setDown_wf {s : St} {n v : Int} (h : Wf s.q s.k) (hn : 0 ≤ n ∧ n ≤ 64) (hs : s.k.stamp + 1 < 10 ^ 40) : Wf (setDown s n v).2.q (setDown s n v).2.k := by
  have hp := h.bk.p
  have ekp := h.kp
  rcases setDown_cases (s := s) (n := n) (v := v) (by omega) with ⟨_, e⟩ | ⟨pg, m, sp, _, ⟨_, e⟩ | ⟨_, _, e⟩ | ⟨_, _, e⟩⟩
  · rw [e]; exact h
  · rw [e]; exact h
  · rw [e]
    exact h.put sp hn hs rfl rfl rfl rfl (by show _ ≤ (s.q.log ++ [_]).length; rw [List.length_append]; omega)
  · rw [e]; exact h.said m false _
/-- what stays: all but the log, the book, the pages -/
structure Keep (s s' : St) : Prop where
  b : s'.q.b = s.q.b
  p : s'.q.p = s.q.p
  ru : s'.ru = s.ru
  pp : s'.pp = s.pp
  clr : s'.q.clr = s.q.clr
  ct : ∀ (i : Nat) e, s.q.ct.getD i none = some e → s'.q.ct.getD i none = some e
theorem Keep.refl {s : St} : Keep s s := ⟨rfl, rfl, rfl, rfl, rfl, fun _ _ h => h⟩
theorem Keep.trans {s s1 s2 : St} (a : Keep s s1) (b : Keep s1 s2) : Keep s s2 := ⟨b.b.trans a.b, b.p.trans a.p, b.ru.trans a.ru, b.pp.trans a.pp, b.clr.trans a.clr, fun i e h => b.ct i e (a.ct i e h)⟩
theorem setDown_keep {s : St} {n v : Int} (h : Wf s.q s.k) : Keep s (setDown s n v).2 := by
  have hp := h.bk.p
  have ekp := h.kp
  rcases setDown_cases (s := s) (n := n) (v := v) (by omega) with ⟨_, e⟩ | ⟨pg, m, sp, _, ⟨_, e⟩ | ⟨_, _, e⟩ | ⟨_, _, e⟩⟩
  · rw [e]; exact Keep.refl
  · rw [e]; exact Keep.refl
  · rw [e]
    refine ⟨rfl, rfl, rfl, rfl, rfl, fun i x hx => ?_⟩
    show (s.q.ct.set pg.toNat _).getD i none = _
    rw [getD_set', if_neg (fun z => by rw [z.1, h.blank sp] at hx; cases hx)]
    exact hx
  · rw [e]; exact ⟨rfl, rfl, rfl, rfl, rfl, fun _ _ h => h⟩
theorem setDown_fail {s s' : St} {n v b : Int} (hp : 1 ≤ s.q.p) (e : setDown s n v = (.error (.failed b), s')) : s'.k = s.k ∧ ∃ m pg, s'.q = s.q.said m false ("put", pg) ∧ b = (m : Int) ∧ Spot s.q s.k pg m := by
  rcases setDown_cases (s := s) (n := n) (v := v) hp with ⟨_, e1⟩ | ⟨pg, m, sp, _, ⟨_, e1⟩ | ⟨_, _, e1⟩ | ⟨_, _, e1⟩⟩
  · rw [e1] at e; cases e
  · rw [e1] at e; cases e
  · rw [e1] at e; cases e
  · rw [e1] at e
    cases e
    exact ⟨rfl, m, pg, rfl, rfl, sp⟩
theorem laySure_last {t : Ts} {n v : Int} {I : St → Prop} (step : ∀ s b s', I s → setDown s n v = (.error (.failed b), s') → I s') : ∀ (f : Nat) (s : St), I s →
    (∃ s0, I s0 ∧ laySure t f s n v = setDown s0 n v ∧ ∀ b, (setDown s0 n v).1 ≠ Except.error (Rf.failed b)) ∨
    (∃ s0 b s', I s0 ∧ setDown s0 n v = (.error (.failed b), s') ∧ wornQ t s'.q = true ∧ laySure t f s n v = (.error .wornout, s')) ∨
    (∃ s0, I s0 ∧ laySure t f s n v = (.error .stuck, s0))
  | 0, s, h => .inr (.inr ⟨s, h, rfl⟩)
  | f + 1, s, h => by
    cases hr : setDown s n v with
    | mk o s' =>
      by_cases hb : ∃ b, o = Except.error (Rf.failed b)
      · obtain ⟨b, rfl⟩ := hb
        have e : laySure t (f + 1) s n v = if wornQ t s'.q = true then (.error .wornout, s') else laySure t f s' n v := by
          show (match setDown s n v with
            | (.error (.failed b), s') => if wornQ t s'.q = true then (Except.error Rf.wornout, s') else laySure t f s' n v
            | r => r) = _
          rw [hr]
        by_cases hw : wornQ t s'.q = true
        · rw [if_pos hw] at e
          exact .inr (.inl ⟨s, b, s', h, hr, hw, e⟩)
        · rw [if_neg hw] at e
          rcases laySure_last step f s' (step s b s' h hr) with ⟨s0, a, b, c⟩ | ⟨s0, b, s2, a, c, d, g⟩ | ⟨s0, a, b⟩
          · exact .inl ⟨s0, a, e.trans b, c⟩
          · exact .inr (.inl ⟨s0, b, s2, a, c, d, e.trans g⟩)
          · exact .inr (.inr ⟨s0, a, e.trans b⟩)
      · refine .inl ⟨s, h, ?_, fun b z => hb ⟨b, by rw [hr] at z; exact z⟩⟩
        show (match setDown s n v with
            | (.error (.failed b), s') => if wornQ t s'.q = true then (Except.error Rf.wornout, s') else laySure t f s' n v
            | r => r) = _
        rw [hr]
        split
        · rename_i b s2 z
          cases z
          exact absurd ⟨b, rfl⟩ hb
        · rfl
theorem layQ_ne {kd : Kd} {t : Ts} {s : St} {n v : Int} (h : kd ≠ .sure) : layQ kd t s n v = setDown s n v := by
  cases kd <;> first | rfl | exact absurd rfl h
/-- a property that a putting down keeps, and a failing, is kept -/
theorem lay_inv {kd : Kd} {t : Ts} {s : St} {n v : Int} {I : St → Prop} (step : ∀ s, I s → I (setDown s n v).2) (h : I s) : I (layQ kd t s n v).2 := by
  by_cases hk : kd = .sure
  · subst hk
    rcases laySure_last (t := t) (n := n) (v := v) (I := I) (fun s b s' h e => by have := step s h; rw [e] at this; exact this) 17 s h with ⟨s0, a, b, _⟩ | ⟨s0, b, s', a, c, _, d⟩ | ⟨s0, a, b⟩
    · show I (laySure t 17 s n v).2
      rw [b]; exact step s0 a
    · show I (laySure t 17 s n v).2
      rw [d]
      have := step s0 a
      rw [c] at this
      exact this
    · show I (laySure t 17 s n v).2
      rw [b]; exact a
  · rw [layQ_ne hk]
    exact step s h
theorem lay_le {kd : Kd} {t : Ts} {s : St} {n v : Int} : Le s (layQ kd t s n v).2 := lay_inv (I := fun s' => Le s s') (fun _ h => h.trans setDown_le) Le.refl
/-- with bounds: a store behind is what a store is -/
theorem lay_wk {kd : Kd} {t : Ts} {s : St} {n v : Int} (h : Wf s.q s.k) (hn : 0 ≤ n ∧ n ≤ 64) (hf : (layQ kd t s n v).2.k.stamp < 10 ^ 30) : Wf (layQ kd t s n v).2.q (layQ kd t s n v).2.k ∧ Keep s (layQ kd t s n v).2 := by
  have hle := (lay_le (kd := kd) (t := t) (s := s) (n := n) (v := v)).stamp
  have h40 : ∀ s0 : St, s0.k = s.k → s0.k.stamp + 1 < 10 ^ 40 := fun s0 e => by rw [e]; omega
  by_cases hk : kd = .sure
  · subst hk
    have step : ∀ s1 b s', (s1.k = s.k ∧ Wf s1.q s1.k ∧ Keep s s1) → setDown s1 n v = (.error (.failed b), s') → s'.k = s.k ∧ Wf s'.q s'.k ∧ Keep s s' := fun s1 b s' ⟨e1, w1, k1⟩ e => by
      have hp := w1.bk.p
      have ekp := w1.kp
      have e2 := (setDown_fail (by omega) e).1
      have w2 := setDown_wf (v := v) w1 hn (h40 s1 e1)
      have k2 := setDown_keep (n := n) (v := v) w1
      rw [e] at w2 k2
      exact ⟨e2.trans e1, w2, k1.trans k2⟩
    rcases laySure_last (t := t) step 17 s ⟨rfl, h, Keep.refl⟩ with ⟨s0, ⟨a1, a2, a3⟩, b, _⟩ | ⟨s0, b, s', a, c, _, d⟩ | ⟨s0, ⟨a1, a2, a3⟩, b⟩
    · show Wf (laySure t 17 s n v).2.q (laySure t 17 s n v).2.k ∧ Keep s (laySure t 17 s n v).2
      rw [b]
      exact ⟨setDown_wf a2 hn (h40 s0 a1), a3.trans (setDown_keep a2)⟩
    · show Wf (laySure t 17 s n v).2.q (laySure t 17 s n v).2.k ∧ Keep s (laySure t 17 s n v).2
      rw [d]
      have := step s0 b s' a c
      exact this.2
    · show Wf (laySure t 17 s n v).2.q (laySure t 17 s n v).2.k ∧ Keep s (laySure t 17 s n v).2
      rw [b]
      exact ⟨a2, a3⟩
  · rw [layQ_ne hk]
    exact ⟨setDown_wf h hn (h40 s rfl), setDown_keep h⟩
/-- a name that was put down lies on the page told, which was the next one then; all else lies as before -/
theorem lay_done {kd : Kd} {t : Ts} {s s' : St} {n v to : Int} (h : Wf s.q s.k) (hn : 0 ≤ n ∧ n ≤ 64) (hs : s.k.stamp + 1 < 10 ^ 40) (e : layQ kd t s n v = (.ok to, s')) :
    ∃ s0 m, s0.k = s.k ∧ Keep s s0 ∧ Wf s0.q s0.k ∧ Spot s0.q s0.k to m ∧ s0.q.dark = false ∧ s0.q.well m false = true ∧ s' = { s0 with q := { s0.q.said m true ("put", to) with ct := s0.q.ct.set to.toNat (some (mk s.k.stamp n, v)) }, k := s.k.note to n } := by
  have fin : ∀ s0, s0.k = s.k → Keep s s0 → Wf s0.q s0.k → setDown s0 n v = (.ok to, s') → ∃ s0 m, s0.k = s.k ∧ Keep s s0 ∧ Wf s0.q s0.k ∧ Spot s0.q s0.k to m ∧ s0.q.dark = false ∧ s0.q.well m false = true ∧ s' = { s0 with q := { s0.q.said m true ("put", to) with ct := s0.q.ct.set to.toNat (some (mk s.k.stamp n, v)) }, k := s.k.note to n } := fun s0 ek hkp hw e => by
    have hp := hw.bk.p
    have ekp := hw.kp
    rcases setDown_cases (s := s0) (n := n) (v := v) (by omega) with ⟨_, e1⟩ | ⟨pg, m, sp, _, ⟨_, e1⟩ | ⟨hd, hwl, e1⟩ | ⟨_, _, e1⟩⟩
    · rw [e1] at e; cases e
    · rw [e1] at e; cases e
    · rw [e1] at e
      injection e with e2 e3
      injection e2 with e2
      subst e2
      exact ⟨s0, m, ek, hkp, hw, sp, hd, hwl, by rw [← e3, ek]⟩
    · rw [e1] at e; cases e
  by_cases hk : kd = .sure
  · subst hk
    have step : ∀ s1 b s', (s1.k = s.k ∧ Wf s1.q s1.k ∧ Keep s s1) → setDown s1 n v = (.error (.failed b), s') → s'.k = s.k ∧ Wf s'.q s'.k ∧ Keep s s' := fun s1 b s' ⟨e1, w1, k1⟩ e => by
      have hp := w1.bk.p
      have ekp := w1.kp
      have e2 := (setDown_fail (by omega) e).1
      have w2 := setDown_wf (v := v) w1 hn (by rw [e1]; exact hs)
      have k2 := setDown_keep (n := n) (v := v) w1
      rw [e] at w2 k2
      exact ⟨e2.trans e1, w2, k1.trans k2⟩
    have e' : laySure t 17 s n v = (.ok to, s') := e
    rcases laySure_last (t := t) step 17 s ⟨rfl, h, Keep.refl⟩ with ⟨s0, ⟨a1, a2, a3⟩, b, _⟩ | ⟨s0, b, s2, a, c, _, d⟩ | ⟨s0, ⟨a1, a2, a3⟩, b⟩
    · exact fin s0 a1 a3 a2 (b.symm.trans e')
    · rw [d] at e'; cases e'
    · rw [b] at e'; cases e'
  · rw [layQ_ne hk] at e
    exact fin s rfl Keep.refl h e
/-! the live pages of a block -/
theorem liveQ_mem {k : Bk} {n : Int} {e : Int × Int} (h : e ∈ liveQ k n) : (∃ j : Nat, j < k.p.toNat ∧ e.1 = n * k.p + (j : Int)) ∧ k.nm.getD e.1.toNat .non = .int e.2 := by
  unfold liveQ at h
  obtain ⟨pg, hpg, he⟩ := List.mem_filterMap.mp h
  obtain ⟨j, hj, rfl⟩ := List.mem_map.mp hpg
  split at he
  · rename_i m hm
    cases he
    exact ⟨⟨j, List.mem_range.mp hj, rfl⟩, hm⟩
  · cases he
theorem mem_liveQ {k : Bk} {n : Int} {j : Nat} {m : Int} (hj : j < k.p.toNat) (h : k.nm.getD (n * k.p + (j : Int)).toNat .non = .int m) : (n * k.p + (j : Int), m) ∈ liveQ k n := by
  unfold liveQ
  refine List.mem_filterMap.mpr ⟨_, List.mem_map.mpr ⟨j, List.mem_range.mpr hj, rfl⟩, ?_⟩
  rw [h]
structure LiveOk (s : St) (e : Int × Int) : Prop where
  nm : 0 ≤ e.2 ∧ e.2 ≤ 64
  pg : 0 ≤ e.1 ∧ e.1 < s.q.b * s.q.p
  ct : ∃ x, s.q.ct.getD e.1.toNat none = some x
theorem Wf.liveOk {s : St} (h : Wf s.q s.k) {n : Int} (hn : 0 ≤ n ∧ n < s.q.b) {e : Int × Int} (he : e ∈ liveQ s.k n) : LiveOk s e ∧ getI s.k.wh e.2 = some e.1 := by
  obtain ⟨⟨j, hj, ej⟩, hnm⟩ := liveQ_mem he
  have hp := h.bk.p
  have ekp := h.kp
  have m0 : 0 ≤ n * s.k.p := Int.mul_nonneg hn.1 (by omega)
  have m1 : n * s.q.p ≤ (s.q.b - 1) * s.q.p := Int.mul_le_mul_of_nonneg_right (by omega) (by omega)
  have m2 : s.q.b * s.q.p = (s.q.b - 1) * s.q.p + s.q.p := by rw [Int.sub_mul, Int.one_mul]; omega
  rw [ekp] at m0 hj ej
  rcases h.nms e.1.toNat with z | ⟨m, z1, z2⟩
  · rw [hnm] at z; cases z
  · rw [hnm] at z1
    cases z1
    have e1 : ((e.1.toNat : Nat) : Int) = e.1 := by omega
    rw [e1] at z2
    have := h.rng _ (getI_mem z2)
    exact ⟨⟨this, by omega, (h.own _ _ z2).1⟩, z2⟩
theorem LiveOk.keep {s s' : St} {e : Int × Int} (h : LiveOk s e) (k : Keep s s') : LiveOk s' e := by
  obtain ⟨x, hx⟩ := h.ct
  exact ⟨h.nm, by rw [k.b, k.p]; exact h.pg, x, k.ct _ _ hx⟩
theorem moved_le {kd : Kd} {t : Ts} : ∀ {L : List (Int × Int)} {s : St}, Le s (movedQ kd t L s).2
  | [], s => Le.refl
  | (pg, n) :: r, s => by
    unfold movedQ
    split
    · exact Le.refl
    · have h1 := lay_le (kd := kd) (t := t) (s := s) (n := n) (v := valueQ s pg n)
      cases hl : layQ kd t s n (valueQ s pg n) with
      | mk o s' =>
        rw [hl] at h1
        cases o with
        | error e => exact h1
        | ok to =>
          dsimp only
          have h2 := moved_le (kd := kd) (t := t) (L := r) (s := s')
          cases hm : movedQ kd t r s' with
          | mk o2 s2 =>
            rw [hm] at h2
            cases o2 <;> exact h1.trans h2
def bindM (ms : List Mv) (r : Except Rf (List Mv) × St) : Except Rf (List Mv) × St := match r with
  | (.ok l, s) => (.ok (ms ++ l), s)
  | (.error e, s) => (.error e, s)
theorem bindM_2 {ms : List Mv} {r : Except Rf (List Mv) × St} : (bindM ms r).2 = r.2 := by
  obtain ⟨o, s⟩ := r
  cases o <;> rfl
theorem bindM_bind {ms l : List Mv} {r : Except Rf (List Mv) × St} : bindM ms (bindM l r) = bindM (ms ++ l) r := by
  obtain ⟨o, s⟩ := r
  cases o with
  | error e => rfl
  | ok x => show (Except.ok (ms ++ (l ++ x)), s) = _; rw [← List.append_assoc]; rfl
theorem moved_cons {kd : Kd} {t : Ts} {pg n : Int} {r : List (Int × Int)} {s : St} : movedQ kd t ((pg, n) :: r) s = if n ≠ 64 ∧ s.q.dark = true then (.error .dark, s) else match layQ kd t s n (valueQ s pg n) with
    | (.error e, s') => (.error e, s')
    | (.ok to, s') => bindM [⟨n, pg, to⟩] (movedQ kd t r s') := by
  conv => lhs; unfold movedQ
  split
  · rfl
  · cases layQ kd t s n (valueQ s pg n) with
    | mk o s' =>
      cases o with
      | error e => rfl
      | ok to =>
        dsimp only
        cases movedQ kd t r s' with
        | mk o2 s2 => cases o2 <;> rfl
/-! ### putting down, walked -/
def spLayQ (T : Txt K mg) (kd : Kd) (P : Program) (w : World) (base : Heap) : Sp := fun vs H Q E => ∃ (C r : Addr) (G : PG) (t : Ts) (s : St) (n v : Int), vs = [.ref r, .int n, .int v] ∧ SP P w base T kd C H r G t s ∧ (0 ≤ n ∧ n ≤ 64) ∧ Fits (layQ kd t s n v).2 ∧
  ∀ H', Off G.mut H H' → SP P w base T kd C H' r G t (layQ kd t s n v).2 → Out T (layQ kd t s n v).1 (fun pg H' => Q (.int pg) H') E H'
theorem ok_Plain_lay (T : Txt K mg) {kd : Kd} (hk : kd ≠ .sure) : FO P w K mg base 10 T.a_Plain_lay T.fd_Plain_lay ["self", "name", "value"] (spLayQ T kd P w base) := by
  have sc := sc_Plain_lay
  refine T.F_Plain_lay.okX sc (fun vs H Q E h => ?_) (fun cdv A outer s H vs Q E hr h => ?_)
  · obtain ⟨_, _, _, _, _, _, _, rfl, _⟩ := h
    rfl
  obtain ⟨C, r, G, t, s, n, v, rfl, hP, hn, hf, q⟩ := h
  refine ⟨_, (pss_one (ps_ret (pe_methD (k := 8) (pv 0) (hr.mono (by decide)) (passAt (takes_of rfl rfl rfl rfl)) (pa_cons (pv 1) (pa_cons (pv 2) pa_nil))))), ?_⟩
  rw [layQ_ne hk] at hf
  walk_at "begin"
  walk_at "go"
  refine x_qSetDown hP ?_
  walk_at "go"
  refine ⟨kd, C, r, G, t, s, n, v, rfl, hP, hn, hf, fun H1 hO1 hP1 => ?_⟩
  have q1 := q H1 hO1
  rw [layQ_ne hk] at q1
  exact q1 hP1
/-! ### a sure store: its own ways -/
theorem x_qLay {T : Txt K mg} {kd : Kd} {C : Addr} {H : Hp} {Q : VK} {E : XK} {σ : L2.St} {r : Addr} {G : PG} {t : Ts} {s : St} {ta : TA} (hP : SP P w base T kd C H r G t s) (h : ta σ H fun vs H2 => spLayQ T kd P w base (.ref r :: vs) H2 Q E) : mtK P w K mg base (L2.CX P w) 10 "lay" E σ ta Q (.ref r) H := by
  have hok := hP.v.ok
  have hm := hP.v.lay
  by_cases hk : kd = .sure
  · subst hk
    exact hok.elim
  · have e : layA T kd = T.a_Plain_lay := by cases kd <;> first | rfl | exact absurd rfl hk
    rw [e] at hm
    exact x_mtK hP.obj ⟨⟨_, _, _, hP.v.cl, hm, ok_Plain_lay T hk, T.bd_Plain_lay⟩⟩ (hP.lk (by rfl)) h
/-! ### the live pages of a block, moved -/
def spMovedQ (T : Txt K mg) (P : Program) (w : World) (base : Heap) : Sp := fun vs H Q E => ∃ (kd : Kd) (C r : Addr) (G : PG) (t : Ts) (s : St) (n : Int), vs = [.ref r, .int n] ∧ kd ≠ .plain ∧ SP P w base T kd C H r G t s ∧ (0 ≤ n ∧ n < s.q.b) ∧ Fits (movedQ kd t (liveQ s.k n) s).2 ∧
  ∀ H', Off G.mut H H' → SP P w base T kd C H' r G t (movedQ kd t (liveQ s.k n) s).2 → Out T (movedQ kd t (liveQ s.k n) s).1 (fun ms H' => ∀ p, H p = none → MvL H' p ms → Q (.ref p) H') E H'
theorem ok_Store_moved (T : Txt K mg) : FO P w K mg base 11 T.a_Store_moved T.fd_Store_moved ["self", "block"] (spMovedQ T P w base) := by
  have sc := sc_Store_moved
  refine T.F_Store_moved.okX sc (fun vs H Q E h => ?_) (fun cdv A outer s H vs Q E hr h => ?_)
  · obtain ⟨_, _, _, _, _, _, _, rfl, _⟩ := h
    rfl
  obtain ⟨kd, C, r, G, t, s, n, rfl, hk, hP, hn, hf, q⟩ := h
  refine ⟨_, (pss_cons (ps_set (i := 2) sc.nd rfl (by first | exact Or.inl rfl | exact Or.inr rfl) (pe_lst pa_nil))
      (pss_cons (ps_for (passes_of rfl) rfl (pi_list (pe_methD (k := 1) (pe_fld (pv 0) rfl) (hr.mono (by decide)) (passAt (takes_of rfl rfl rfl rfl)) (pa_cons (pv 1) pa_nil))) (pg_tup (by rfl) (pgs_cons (pg_name (i := 3) sc.nd rfl (by first | exact Or.inl rfl | exact Or.inr rfl)) (pgs_cons (pg_name (i := 4) sc.nd rfl (by first | exact Or.inl rfl | exact Or.inr rfl)) pgs_nil))) (pss_one (ps_expr (pe_bm PySem.F.plainAttrs_list PySem.F.slot_list_append PySem.F.type_list_append mt_append (pv 2) (pa_cons (pe_tup (pa_cons (pv 4) (pa_cons (pv 3) (pa_cons (pe_methD (k := 10) (pv 0) (hr.mono (by decide)) (passAt (takes_of rfl rfl rfl rfl)) (pa_cons (pv 4) (pa_cons (pe_methD (k := 5) (pv 0) (hr.mono (by decide)) (passAt (takes_of rfl rfl rfl rfl)) (pa_cons (pv 3) (pa_cons (pv 4) pa_nil))) pa_nil))) pa_nil)))) pa_nil)))))
      (pss_one (ps_ret (pv 2))))), ?_⟩
  have vcl := hP.v.cl
  have vn3 := hP.v.n3
  have ho := hP.obj
  unfold objF coreF at ho
  have hlive := fun e (he : e ∈ liveQ s.k n) => (hP.wf.liveOk hn he).1
  have hll : (liveQ s.k n).length ≤ 16 := by
    have := liveN_len (k := s.k) (n := n) (i := s.k.p.toNat)
    have := hP.wf.bk.p
    show (liveN s.k n s.k.p.toNat).length ≤ 16
    omega
  have hnm : ∀ pg : Nat, s.k.nm.getD pg .non = .non ∨ ∃ m : Int, s.k.nm.getD pg .non = .int m := fun pg => by
    rcases hP.wf.nms pg with z | ⟨m, z, _⟩
    · exact .inl z
    · exact .inr ⟨m, z⟩
  walk_at "begin"
  walk_at "go"
  rename_i p H1 hp hs1 hn1
  have hP1 := hP.mono hs1
  have ho1 := hs1 _ _ ho
  refine x_seq ?_
  walk_at "go"
  refine x_mLivePages hP1.book ?_
  walk_at "go"
  refine ⟨G.rb, G.fb, s.k, n, rfl, hP1.book, hP.wf.bk, by rw [hP.wf.kb]; exact hn, hnm, fun p2 ws H2 hs2 hp2 hn2 hpl => ?_⟩
  have hP2 := hP1.mono hs2
  have s02 := hs1.trans hs2
  have hpne : p ≠ p2 := ne_of_none hn1 hp2
  have kp : p ∉ G.mut := fun z => hP.fresh hp (PG.mut_all z)
  have kp2 : p2 ∉ G.mut := fun z => hP1.fresh hp2 (PG.mut_all z)
  generalize hL : liveQ s.k n = L at hlive hll hpl hf q
  refine x_frL (SqL.of hn2) (fun i σ H' => ∃ (v3 v4 : Option V) (s' : St) (ms : List Mv) (xs : List V), σ = [some (.ref r), some (.int n), some (.ref p), v3, v4] ∧ Off G.mut H H' ∧ TupS H2 H' ∧ SP P w base T kd C H' r G t s' ∧ H' p2 = some (.lst ws) ∧ H' p = some (.lst xs) ∧ TupL H' xs (ms.map Mv.is) ∧ ms.length ≤ i ∧ movedQ kd t L s = bindM ms (movedQ kd t (L.drop i) s') ∧ (∀ e ∈ L.drop i, LiveOk s' e) ∧ (∀ e ∈ L.take i, True))
    ⟨_, _, s, [], [], rfl, Off.of s02, fun _ _ h => h, hP2, hn2, hs2 _ _ hn1, TupL.nil, Nat.le_refl _, ?_, hlive, fun _ _ => trivial⟩ (fun i σ H' _ ⟨_, _, _, _, _, _, _, _, _, h, _⟩ => SqL.of h) ?_ ?_
  · rw [List.drop_zero]
    cases movedQ kd t L s with
    | mk o s' => cases o <;> rfl
  · intro i x σ H' hx ⟨v3, v4, s', ms, xs, hσ, o02, tt2, hP', hp2', hp', hms, hml, he, hl, _⟩
    subst hσ
    have hil := (List.getElem?_eq_some_iff.mp hx).1
    obtain ⟨e, hei⟩ : ∃ e, L[i]? = some e := ⟨_, List.getElem?_eq_getElem (by have := hpl.1; omega)⟩
    obtain ⟨hiL, e1⟩ := List.getElem?_eq_some_iff.mp hei
    obtain ⟨tp, rfl, htp⟩ := hpl.2 i x e hx hei
    have htp' := tt2 _ _ htp
    rw [List.drop_eq_getElem_cons hiL, e1] at he hl
    obtain ⟨pg, m⟩ := e
    have hl0 := hl _ List.mem_cons_self
    rw [moved_cons] at he
    have hxl : xs.length < sizeLine := Nat.lt_of_le_of_lt (show xs.length ≤ 1000 by rw [hms.1, List.length_map]; omega) (by decide)
    refine x_gtup2 (SqT.of htp') ?_
    dsimp only [List.set]
    have o02' := o02
    clear o02
    walk_at "go"
    have o02 := o02'
    refine x_qLay hP' ?_
    walk_at "go"
    refine x_qValue hk hP' ?_
    walk_at "go"
    refine ⟨kd, C, r, G, t, s', pg, m, rfl, hk, hP', hl0.pg, hl0.ct, fun H3 hs3 => ?_⟩
    by_cases hdk : m ≠ 64 ∧ s'.q.dark = true
    · rw [if_pos hdk]
      rw [if_pos hdk] at he
      have q3 := q H3 (o02.trans (Off.of hs3))
      rw [he] at q3
      exact q3 (hP'.mono hs3)
    · rw [if_neg hdk]
      rw [if_neg hdk] at he
      have hP3 := hP'.mono hs3
      walk_at "go"
      have hle := lay_le (kd := kd) (t := t) (s := s') (n := m) (v := valueQ s' pg m)
      have hfl : Fits (layQ kd t s' m (valueQ s' pg m)).2 := by
        cases hlq : layQ kd t s' m (valueQ s' pg m) with
        | mk o s2 =>
          rw [hlq] at he
          cases o with
          | error x => rw [he] at hf; exact hf
          | ok to =>
            rw [he, bindM_2, bindM_2] at hf
            exact moved_le.fits hf
      have hwk := lay_wk (kd := kd) (t := t) (v := valueQ s' pg m) hP'.wf hl0.nm hfl.2.1
      refine ⟨C, r, G, t, s', m, _, rfl, hP3, hl0.nm, hfl, fun H4 hO4 hP4 => ?_⟩
      have o04 : Off G.mut H H4 := (o02.trans (Off.of hs3)).trans hO4
      have hp4 : H4 p = some (.lst xs) := hO4.at (hs3 _ _ hp') kp
      have hp24 : H4 p2 = some (.lst ws) := hO4.at (hs3 _ _ hp2') kp2
      have tt4 : TupS H' H4 := (TupS.of hs3).trans (hP3.tupsM hO4)
      cases hlq : layQ kd t s' m (valueQ s' pg m) with
      | mk o s2 =>
        rw [hlq] at he hP4 hwk
        cases o with
        | error x =>
          have q4 := q H4 o04
          rw [he] at q4
          exact q4 hP4
        | ok to =>
          dsimp only at he hP4 hwk
          have htp4 := fun H5 (h : TupS H4 H5) => (hms.mono tt4).mono h
          clear hO4
          unfold Out
          dsimp only
          walk_at "go"
          rename_i tq H5 htq hs5 hn5 H6 hO6 hI6
          have hp5 := hs5 _ _ hp4
          have t56 := hO6.tupsL hp5
          have hP6 := (hP4.mono hs5).off1 hP hp hO6 t56 hk
          refine ⟨_, _, s2, ms ++ [⟨m, pg, to⟩], _, rfl, (o04.trans (Off.of hs5)).new1 hO6 hp, ((tt2.trans tt4).trans (TupS.of hs5)).trans t56, hP6, hO6.at (hs5 _ _ hp24) (nin_of hpne.symm), hI6, ?_, by rw [List.length_append, List.length_singleton]; omega, by rw [he, bindM_bind], fun e he2 => (hl e (List.mem_cons_of_mem _ he2)).keep hwk.2, fun _ _ => trivial⟩
          · rw [List.map_append]
            exact ((htp4 H5 (TupS.of hs5)).mono t56).snoc ⟨tq, rfl, t56 _ _ hn5⟩
  · intro σ H' ⟨v3, v4, s', ms, xs, hσ, o02, tt2, hP', hp2', hp', hms, hml, he, hl, _⟩
    subst hσ
    rw [hpl.1, List.drop_length] at he
    have e2 : movedQ kd t L s = (.ok ms, s') := by rw [he]; show (Except.ok (ms ++ []), s') = _; rw [List.append_nil]
    have q5 := q H' o02
    rw [e2] at q5
    clear o02
    dsimp only
    walk_at "go"
    exact q5 hP' p hp ⟨xs, hp', hms⟩
/-! ### a block wiped -/
theorem StfAt.setN {H : Hp} {st : List V} {ct : List (Option (Int × Int))} {i : Nat} (h : StfAt H st ct) : StfAt H (st.set i .non) (ct.set i none) := by
  refine ⟨by rw [List.length_set, List.length_set, h.1], fun j hj => ?_⟩
  rw [List.length_set] at hj
  rw [getD_set', getD_set']
  by_cases e1 : j = i ∧ i < st.length
  · rw [if_pos e1, if_pos ⟨e1.1, by rw [← h.1]; exact e1.2⟩]
    exact .inl ⟨rfl, rfl⟩
  · rw [if_neg e1, if_neg (fun z => e1 ⟨z.1, by rw [h.1]; exact z.2⟩)]
    exact h.2 j hj
theorem StfAt.blank {H : Hp} {st : List V} {ct : List (Option (Int × Int))} (s : Nat) (h : StfAt H st ct) : ∀ i, StfAt H (blankN st s i) (blankP ct s i)
  | 0 => h
  | i + 1 => (StfAt.blank s h i).setN
theorem wipe_toC {q : Pc} {st : List V} {n : Int} (h0 : 0 ≤ n) (h1 : n < q.b) :
    (q.toC st).wipeR (some n) = (match (q.wipeP n).1 with
      | none => Res.ok
      | some (.failed b) => .failed b
      | _ => .dark, (q.wipeP n).2.toC (match (q.wipeP n).1 with
      | none => blankN st (n.toNat * q.p.toNat) q.p.toNat
      | _ => st)) := by
  have hin : inB (some n) 0 ((q.toC st).b - 1) = true := decide_eq_true ⟨h0, by show n ≤ q.b - 1; omega⟩
  unfold Cs.wipeR
  rw [if_neg (by rw [hin]; decide)]
  simp only [Option.getD_some]
  unfold Pc.wipeP
  cases hd : q.dark with
  | true =>
    rw [if_pos (show (q.toC st).dark = true from hd), if_pos rfl]
  | false =>
    simp only [Bool.false_eq_true, if_false]
    rw [if_neg (show ¬ (q.toC st).dark = true from by rw [show (q.toC st).dark = q.dark from rfl, hd]; decide)]
    cases hb : q.broken.getD n.toNat false with
    | true =>
      rw [if_pos (show (q.toC st).broken.getD n.toNat false = true from hb), if_pos rfl]
    | false =>
      simp only [Bool.false_eq_true, if_false]
      rw [if_neg (show ¬ (q.toC st).broken.getD n.toNat false = true from by rw [show (q.toC st).broken.getD n.toNat false = q.broken.getD n.toNat false from rfl, hb]; decide)]
      cases hw : q.well n.toNat (decide (q.clr.getD n.toNat 0 = q.m)) with
      | true =>
        rw [if_pos (show (q.toC st).well n.toNat (decide ((q.toC st).clr.getD n.toNat 0 = (q.toC st).m)) = true from hw)]
        rfl
      | false =>
        rw [if_neg (show ¬ (q.toC st).well n.toNat (decide ((q.toC st).clr.getD n.toNat 0 = (q.toC st).m)) = true from by rw [show (q.toC st).well n.toNat (decide ((q.toC st).clr.getD n.toNat 0 = (q.toC st).m)) = q.well n.toNat (decide (q.clr.getD n.toNat 0 = q.m)) from rfl, hw]; decide)]
        rfl
def spWipeQ (T : Txt K mg) : Sp := fun vs H Q E => ∃ (r : Addr) (F : CF) (q : Pc) (n : Int), vs = [.ref r, .int n] ∧ ChipP T.C_Chip H r F q ∧ q.log.length < 900000 ∧ 0 ≤ n ∧ n < q.b ∧
  ∀ H', Off (F.all r) H H' → ChipP T.C_Chip H' r F (q.wipeP n).2 → (match (q.wipeP n).1 with
    | none => Q .non H'
    | some x => FinR T x E H')
theorem wipeP_cases {q : Pc} {n : Int} : (q.dark = true ∧ q.wipeP n = (some .dark, q)) ∨ (q.dark = false ∧ q.broken.getD n.toNat false = true ∧ q.wipeP n = (some (.failed n), q)) ∨
    (q.dark = false ∧ q.broken.getD n.toNat false = false ∧ q.well n.toNat (decide (q.clr.getD n.toNat 0 = q.m)) = true ∧ q.wipeP n = (none, { q.said n.toNat true ("wipe", n) with clr := q.clr.set n.toNat (q.clr.getD n.toNat 0 + 1), ct := blankP q.ct (n.toNat * q.p.toNat) q.p.toNat })) ∨
    (q.dark = false ∧ q.broken.getD n.toNat false = false ∧ q.well n.toNat (decide (q.clr.getD n.toNat 0 = q.m)) = false ∧ q.wipeP n = (some (.failed n), q.said n.toNat false ("wipe", n))) := by
  cases hd : q.dark with
  | true => exact .inl ⟨rfl, by unfold Pc.wipeP; rw [if_pos hd]⟩
  | false =>
    have hd' : ¬ q.dark = true := by rw [hd]; decide
    cases hb : q.broken.getD n.toNat false with
    | true => exact .inr (.inl ⟨rfl, rfl, by unfold Pc.wipeP; rw [if_neg hd', if_pos hb]⟩)
    | false =>
      have hb' : ¬ q.broken.getD n.toNat false = true := by rw [hb]; decide
      cases hw : q.well n.toNat (decide (q.clr.getD n.toNat 0 = q.m)) with
      | true => exact .inr (.inr (.inl ⟨rfl, rfl, rfl, by unfold Pc.wipeP; rw [if_neg hd', if_neg hb', if_pos hw]⟩))
      | false => exact .inr (.inr (.inr ⟨rfl, rfl, rfl, by unfold Pc.wipeP; rw [if_neg hd', if_neg hb', if_neg (by rw [hw]; decide)]⟩))
theorem wipeQ_wipe {T : Txt K mg} {vs : List V} {H : Hp} {Q : VK} {E : XK} (h : spWipeQ T vs H Q E) : spWipe T vs H Q E := by
  obtain ⟨r, F, q, n, rfl, ⟨st, hC, hst⟩, hll, h0, h1, k⟩ := h
  refine ⟨r, F, q.toC st, _, some n, rfl, hC, .int n, hll, fun H' hO hC' => ?_⟩
  rw [wipe_toC h0 h1] at hC' ⊢
  have tt := tups_of hC.there hO
  have k1 := k H' hO
  rcases wipeP_cases (q := q) (n := n) with ⟨_, e⟩ | ⟨_, _, e⟩ | ⟨_, _, _, e⟩ | ⟨_, _, _, e⟩
  · rw [e] at hC' k1 ⊢
    have k2 := k1 ⟨_, hC', hst.mono tt⟩
    exact x_finDark k2
  · rw [e] at hC' k1 ⊢
    have k2 := k1 ⟨_, hC', hst.mono tt⟩
    exact k2
  · rw [e] at hC' k1 ⊢
    exact x_finOk (k1 ⟨_, hC', (hst.mono tt).blank _ _⟩)
  · rw [e] at hC' k1 ⊢
    have k2 := k1 ⟨_, hC', hst.mono tt⟩
    exact k2
def spEmptied (T : Txt K mg) : Sp := fun vs H Q _ => ∃ (r : Addr) (F : BF) (k : Bk) (n : Nat), vs = [.ref r, .int (n : Int)] ∧ BookAt T.C_Book H r F k ∧ BkOk k ∧ (n : Int) < k.b ∧ ∀ H', Off (F.all r) H H' → BookAt T.C_Book H' r F (k.empt n) → Q .non H'
theorem ok_Book_emptied (T : Txt K mg) : FO P w K mg base 1 T.a_Book_emptied T.fd_Book_emptied ["self", "block"] (spEmptied T) := by
  have sc := sc_Book_emptied
  refine T.F_Book_emptied.okX sc (fun vs H Q E h => ?_) (fun cdv A outer s H vs Q E hr h => ?_)
  · obtain ⟨_, _, _, _, rfl, _⟩ := h
    rfl
  obtain ⟨r, F, k, n, rfl, hB, hk, hn, q⟩ := h
  refine ⟨_, (pss_cons (ps_asg pe_int (pg_sub (pe_fld (pv 0) rfl) (pv 1) set_list))
      (pss_one (ps_asg pe_int (pg_sub (pe_fld (pv 0) rfl) (pv 1) set_list)))), ?_⟩
  obtain ⟨⟨n1, n2, n3, n4, n5⟩, ⟨n6, n7, n8, n9⟩, ⟨n10, n11, n12⟩, ⟨n13, n14⟩, n15⟩ := hB.ne
  have ho := hB.obj
  have a1 := hB.wh
  have a2 := hB.nm
  have a3 := hB.lv
  have a4 := hB.fl
  have a5 := hB.bn
  have z1 := hk.fil
  have z2 := hk.born
  unfold bookF at ho
  have hn1 : (n : Int) < k.fil.length := by omega
  have hn2 : (n : Int) < k.born.length := by omega
  walk_at "begin"
  walk_at "go"
  rename_i H1 hO1 hI1 H2 hO2 hI2
  have f0 : H2 r = some (.ins T.C_Book F.dx (bookF F k)) := by unfold bookF; walk_at "hp"
  have f1 : H2 F.wh = some (.dK (kvI k.wh)) := by walk_at "hp"
  have f2 : H2 F.nm = some (.lst k.nm) := by walk_at "hp"
  have f3 : H2 F.lv = some (.lst (k.live.map V.int)) := by walk_at "hp"
  have f4 : H2 F.fl = some (.lst ((k.fil.set (n : Int).toNat 0).map V.int)) := by rw [List.map_set]; walk_at "hp"
  have one : ∀ {y : Addr} {Ha Hb : Hp}, y ∈ F.all r → Off [y] Ha Hb → Off (F.all r) Ha Hb := fun hy h => h.sub fun b hb => by rw [List.mem_singleton.mp hb]; exact hy
  exact q H2 ((one (by simp [BF.all]) hO1).trans (one (by simp [BF.all]) hO2)) ⟨f0, f1, f2, f3, f4, by show H2 F.bn = some (.lst ((k.born.set (n : Int).toNat 0).map V.int)); rw [List.map_set]; exact hI2, hB.nd⟩
theorem x_mEmptied {T : Txt K mg} {H : Hp} {Q : VK} {E : XK} {σ : L2.St} {r : Addr} {F : BF} {k : Bk} {t : TA} (hB : BookAt T.C_Book H r F k) (h : t σ H fun vs H2 => spEmptied T (.ref r :: vs) H2 Q E) : mtK P w K mg base (L2.CX P w) 1 "emptied" E σ t Q (.ref r) H :=
  x_mtK hB.obj ⟨⟨_, _, _, T.cl_Book, T.m_Book_emptied, ok_Book_emptied T, T.bd_Book_emptied⟩⟩ rfl h
/-- no name lies in the block -/
def NoLive (k : Bk) (n : Nat) : Prop := ∀ nm pg, getI k.wh nm = some pg → pg / k.p ≠ (n : Int)
def spWipedQ (T : Txt K mg) (kd : Kd) (P : Program) (w : World) (base : Heap) : Sp := fun vs H Q E => ∃ (C r : Addr) (G : PG) (t : Ts) (s : St) (n : Nat), vs = [.ref r, .int (n : Int)] ∧ kd ≠ .plain ∧ SP P w base T kd C H r G t s ∧ n < s.q.b.toNat ∧ NoLive s.k n ∧ Fits (wipedQ kd t s n).2 ∧
  ∀ H', Off G.mut H H' → SP P w base T kd C H' r G t (wipedQ kd t s n).2 → Out T (wipedQ kd t s n).1 (fun b H' => Q (.bl b) H') E H'
theorem wipeP_le {q : Pc} {n : Int} : q.log.length ≤ (q.wipeP n).2.log.length ∧ (q.wipeP n).2.b = q.b ∧ (q.wipeP n).2.p = q.p := by
  rcases wipeP_cases (q := q) (n := n) with ⟨_, e⟩ | ⟨_, _, e⟩ | ⟨_, _, _, e⟩ | ⟨_, _, _, e⟩
  · rw [e]; exact ⟨Nat.le_refl _, rfl, rfl⟩
  · rw [e]; exact ⟨Nat.le_refl _, rfl, rfl⟩
  · rw [e]; exact ⟨by show _ ≤ (q.log ++ [_]).length; rw [List.length_append]; omega, rfl, rfl⟩
  · rw [e]; exact ⟨by show _ ≤ (q.log ++ [_]).length; rw [List.length_append]; omega, rfl, rfl⟩
theorem wipedQ_le {kd : Kd} {t : Ts} {s : St} {n : Int} : Le s (wipedQ kd t s n).2 ∧ (wipedQ kd t s n).2.pp = s.pp ∧ (wipedQ kd t s n).2.k.wh = s.k.wh := by
  unfold wipedQ
  have h := (wipeP_le (q := s.q) (n := n)).1
  generalize s.q.wipeP n = res at h
  obtain ⟨o, q'⟩ := res
  cases o with
  | none => exact ⟨⟨h, Int.le_refl _, Nat.le_refl _⟩, rfl, rfl⟩
  | some x =>
    cases x <;> try exact ⟨⟨h, Int.le_refl _, Nat.le_refl _⟩, rfl, rfl⟩
    cases kd <;> try exact ⟨⟨h, Int.le_refl _, Nat.le_refl _⟩, rfl, rfl⟩
    dsimp only
    split <;> exact ⟨⟨h, Int.le_refl _, Nat.le_refl _⟩, rfl, rfl⟩
theorem wiped_wf {kd : Kd} {t : Ts} {s : St} {n : Nat} (h : Wf s.q s.k) (hn : n < s.q.b.toNat) (hno : NoLive s.k n) : Wf (wipedQ kd t s n).2.q (wipedQ kd t s n).2.k := by
  unfold wipedQ
  rcases wipeP_cases (q := s.q) (n := (n : Int)) with ⟨_, e⟩ | ⟨_, _, e⟩ | ⟨_, _, _, e⟩ | ⟨_, _, _, e⟩
  · rw [e]; exact h
  · rw [e]
    cases kd <;> try exact h
    dsimp only
    split <;> exact h
  · rw [e]
    exact h.wipe hn hno rfl rfl (by rw [Int.toNat_natCast]) (by rw [Int.toNat_natCast]) (by show (s.q.log ++ [_]).length = _; rw [List.length_append]; rfl)
  · rw [e]
    cases kd <;> try exact h.said _ _ _
    dsimp only
    split <;> exact h.said _ _ _
theorem ok_Store_wiped (T : Txt K mg) {kd : Kd} (hks : kd ≠ .sure) : FO P w K mg base 10 T.a_Store_wiped T.fd_Store_wiped ["self", "block"] (spWipedQ T kd P w base) := by
  have sc := sc_Store_wiped
  refine T.F_Store_wiped.okX sc (fun vs H Q E h => ?_) (fun cdv A outer s H vs Q E hr h => ?_)
  · obtain ⟨_, _, _, _, _, _, rfl, _⟩ := h
    rfl
  obtain ⟨C, r, G, t, s, n, rfl, hk, hP, hn, hno, hf, q⟩ := h
  refine ⟨_, (pss_cons (ps_expr (pe_methD (k := 4) (pe_fld (pv 0) rfl) (hr.mono (by decide)) (passAt (takes_of rfl rfl rfl rfl)) (pa_cons (pv 1) pa_nil)))
      (pss_cons (ps_expr (pe_methD (k := 1) (pe_fld (pv 0) rfl) (hr.mono (by decide)) (passAt (takes_of rfl rfl rfl rfl)) (pa_cons (pv 1) pa_nil)))
      (pss_one (ps_ret pe_bl)))), ?_⟩
  have vcl := hP.v.cl
  have vn1 := hP.v.n1
  have vn3 := hP.v.n3
  have ho := hP.obj
  obtain ⟨st, hC, _⟩ := hP.chip
  have hfi := wipedQ_le.1.fits hf
  have hwf := wiped_wf (kd := kd) (t := t) hP.wf hn hno
  unfold objF coreF at ho
  walk_at "begin"
  walk_at "go"
  refine x_mWipe hC ?_
  walk_at "go"
  refine wipeQ_wipe ⟨G.rc, G.fc, s.q, n, rfl, hP.chip, hfi.1, Int.natCast_nonneg _, by omega, fun H1 hO1 hC1 => ?_⟩
  have hbp := (wipeP_le (q := s.q) (n := (n : Int))).2
  unfold wipedQ at q hwf
  have hcs := wipeP_cases (q := s.q) (n := (n : Int))
  generalize s.q.wipeP (n : Int) = res at q hC1 hbp hwf hcs ⊢
  obtain ⟨o, q'⟩ := res
  have o1 : Off G.mut H H1 := hO1.sub fun b hb => List.mem_append_left _ hb
  cases o with
  | some x =>
    have e : ∃ y, (match (some x, q') with
      | (none, q') => ((.ok true, { s with q := q', k := s.k.empt n }) : Except Rf Bool × St)
      | (some (.failed b), q') => match kd with
        | .sure => if wornQ t q' = true then (.error .wornout, { s with q := q' }) else (.ok false, { s with q := q' })
        | _ => (.error (.failed b), { s with q := q' })
      | (some e, q') => (.error e, { s with q := q' })) = (.error y, { s with q := q' }) ∧ y = x := by
      cases x <;> try exact ⟨_, rfl, rfl⟩
      cases kd <;> first | exact ⟨_, rfl, rfl⟩ | exact absurd rfl hks
    obtain ⟨y, e, rfl⟩ := e
    rw [e] at q hwf
    have hP1 := hP.chipC hO1 hC1 hbp hwf
    exact q H1 o1 hP1
  | none =>
    dsimp only at q hwf ⊢
    have ho1 : H1 r = some (.ins C G.dx (objF kd G)) := o1.at hP.obj (fun z => hP.nr (PG.mut_all z))
    have hB1 : BookAt T.C_Book H1 G.rb G.fb s.k := hP.book.off hO1 hP.cb
    have hP1 : ∀ H2, Off (G.fb.all G.rb) H1 H2 → BookAt T.C_Book H2 G.rb G.fb (s.k.empt n) → SP P w base T kd C H2 r G t { s with q := q', k := s.k.empt n } := fun H2 o2 hB2 => by
      have o12 : Off G.mut H H2 := o1.trans (o2.sub fun b hb => List.mem_append_right _ hb)
      have tt := hP.tupsM o12
      have far : ∀ {a : Addr} {x : HO}, a ∉ G.mut → H a = some x → H2 a = some x := fun ha hx => o12.at hx ha
      exact ⟨hP.v, far (fun z => hP.nr (PG.mut_all z)) hP.obj, hC1.off o2 (fun a ha hb => hP.cb a hb ha) (tups_of (fun a ha => hB1.there a ha) o2), far (fun z => hP.nt (PG.mut_all z)) hP.terms, hB2, fun hk => (hP.rule hk).off o12 (fun a ha => ((hP.np hk).2 a ha).1) tt, fun hk => (hP.pap hk).at (fun _ => far (hP.np hk).1) (fun a ha _ => far (fun z => (hP.nf hk a ha).1 (PG.mut_all z))) tt, hwf, ⟨hP.tb.1.trans hbp.1.symm, hP.tb.2.trans hbp.2.symm⟩, hP.nr, hP.nt, hP.cb, hP.np, hP.nf, fun hk a ha => (hP.fa hk a ha).imp fun _ => far (fun z => (hP.nf hk a ha).1 (PG.mut_all z))⟩
    unfold objF coreF at ho1
    walk_at "go"
    refine x_mEmptied hB1 ?_
    walk_at "go"
    refine ⟨G.rb, G.fb, s.k, n, rfl, hB1, hP.wf.bk, by rw [hP.wf.kb]; omega, fun H2 hO2 hB2 => ?_⟩
    have q2 := q H2 (o1.trans (hO2.sub fun b hb => List.mem_append_right _ hb)) (hP1 H2 hO2 hB2)
    clear hO2 hO1 o1
    walk_at "go"
    exact q2
/-! ### a sure store's wiping -/
theorem x_qWiped {T : Txt K mg} {kd : Kd} {C : Addr} {H : Hp} {Q : VK} {E : XK} {σ : L2.St} {r : Addr} {G : PG} {t : Ts} {s : St} {ta : TA} (hk : kd ≠ .plain) (hP : SP P w base T kd C H r G t s) (h : ta σ H fun vs H2 => spWipedQ T kd P w base (.ref r :: vs) H2 Q E) : mtK P w K mg base (L2.CX P w) 10 "wiped" E σ ta Q (.ref r) H := by
  have hok := hP.v.ok
  have hm := hP.v.wiped hk
  by_cases hks : kd = .sure
  · subst hks
    exact hok.elim
  · have e : wipA T kd = T.a_Store_wiped := by cases kd <;> first | rfl | exact absurd rfl hks | exact absurd rfl hk
    rw [e] at hm
    exact x_mtK hP.obj ⟨⟨_, _, _, hP.v.cl, hm, ok_Store_wiped T hks, T.bd_Store_wiped⟩⟩ (hP.lk (by rfl)) h
/-! ### a making of room -/
theorem pick_mem {g : Tal → Tal → Bool} {ts : List Tal} (h : ts ≠ []) : pick g ts ∈ ts := by
  cases ts with
  | nil => exact absurd rfl h
  | cons t ts =>
    rcases pickL_mem g ts t with e | e
    · show pickL g t ts ∈ _
      rw [e]; exact List.mem_cons_self
    · exact List.mem_cons_of_mem _ e
theorem choose_mem {R : Rl} {ts : List Tal} {pages now : Int} (h : ts ≠ []) (hR : R.ok) : ∃ u ∈ ts, u.b = (R.choose ts pages now).1 := by
  cases R with
  | «by» g => exact ⟨_, pick_mem h, rfl⟩
  | window n =>
    have hn : 1 ≤ n := hR
    have hne : (ts.filter fun t => decide ((t.o, t.b) ∈ (sortP (ts.map fun t => (t.o, t.b))).take n.toNat)) ≠ [] := by
      have hl : (sortP (ts.map fun t => (t.o, t.b))).length = ts.length := by rw [(sortP_perm _).length_eq, List.length_map]
      have hpos : 0 < ts.length := List.length_pos_iff.mpr h
      have hm : (sortP (ts.map fun t => (t.o, t.b)))[0]'(by omega) ∈ ts.map fun t => (t.o, t.b) := (sortP_perm _).mem_iff.mp (List.getElem_mem _)
      obtain ⟨u, hu, e⟩ := List.mem_map.mp hm
      refine List.ne_nil_of_mem (a := u) (List.mem_filter.mpr ⟨hu, decide_eq_true ?_⟩)
      rw [e]
      refine List.mem_of_getElem? (i := 0) ?_
      rw [List.getElem?_take_of_lt (by omega), List.getElem?_eq_getElem (by omega)]
    have := pick_mem (g := fun t u => decide (t.l < u.l)) hne
    exact ⟨_, (List.mem_filter.mp this).1, rfl⟩
  | follow l i =>
    have hd : ∃ u ∈ ts, u.b = (ts.headD ⟨0, 0, 0, 0⟩).b := by
      cases ts with
      | nil => exact absurd rfl h
      | cons t ts => exact ⟨t, List.mem_cons_self, rfl⟩
    show ∃ u ∈ ts, u.b = (match l[i]? with
      | none => (ts.headD ⟨0, 0, 0, 0⟩).b
      | some b => if (ts.any fun t => decide (t.b = b)) = true then b else (ts.headD ⟨0, 0, 0, 0⟩).b)
    cases l[i]? with
    | none => exact hd
    | some b =>
      dsimp only
      split
      · rename_i ha
        obtain ⟨u, hu, e⟩ := List.any_eq_true.mp ha
        exact ⟨u, hu, of_decide_eq_true e⟩
      · exact hd
/-- the block that is chosen is full, good, and its live pages find space -/
theorem choice_full {kd : Kd} {t : Ts} {s : St} {why : Str} {b : Int} (hR : s.ru.ok) (h : (choiceQ kd t s).1 = some (why, b)) : ∃ n : Nat, b = (n : Int) ∧ n < s.q.b.toNat ∧ s.q.broken.getD n false = false ∧ s.k.fil.getD n 0 = t.p ∧ s.k.live.getD n 0 ≤ spaceQ kd t s.q s.k := by
  unfold choiceQ at h
  cases hl : optsQ kd t s.q s.k with
  | nil =>
    rw [hl] at h
    dsimp only at h
    have hs : ∀ x, otherQ kd t s.q s.k = some x → ∃ u ∈ fullQ kd t s.q s.k, u.b = x := fun x hx => by
      have key : ∀ kd, (match sparedQ kd t s.q s.k with
          | [] => none
          | u :: us => some (pickL (fun x y => decide (x.c < y.c)) u us).b) = some x → ∃ u ∈ fullQ kd t s.q s.k, u.b = x := fun kd hx => by
        cases hsp : sparedQ kd t s.q s.k with
        | nil => rw [hsp] at hx; cases hx
        | cons u us =>
          rw [hsp] at hx
          injection hx with hx
          have hm := pick_mem (g := fun x y => decide (x.c < y.c)) (ts := u :: us) (by simp)
          have hm2 : pickL (fun x y => decide (x.c < y.c)) u us ∈ sparedQ kd t s.q s.k := by rw [hsp]; exact hm
          exact ⟨_, (List.mem_filter.mp hm2).1, hx⟩
      cases kd with
      | plain => cases hx
      | store => cases hx
      | even => exact key .even hx
      | sure => exact key .sure hx
    cases ho : otherQ kd t s.q s.k with
    | none => rw [ho] at h; cases h
    | some x =>
      rw [ho] at h
      cases h
      obtain ⟨u, hu, e⟩ := hs _ ho
      obtain ⟨n, rfl, h1, h2, h3, h4⟩ := fullQ_mem hu
      exact ⟨n, e.symm, h1, h2, h3, h4⟩
  | cons u us =>
    rw [hl] at h
    dsimp only at h
    injection h with h
    cases h
    obtain ⟨x, hx, e⟩ := choose_mem (R := s.ru) (ts := u :: us) (pages := t.p) (now := s.k.stamp) (by simp) hR
    rw [← hl] at hx
    obtain ⟨n, rfl, h1, h2, h3, h4⟩ := fullQ_mem (optsQ_sub hx).1
    exact ⟨n, e.symm, h1, h2, h3, h4⟩
theorem moved_wk {kd : Kd} {t : Ts} : ∀ {L : List (Int × Int)} {s : St}, Wf s.q s.k → (∀ e ∈ L, 0 ≤ e.2 ∧ e.2 ≤ 64) → (movedQ kd t L s).2.k.stamp < 10 ^ 30 → Wf (movedQ kd t L s).2.q (movedQ kd t L s).2.k ∧ Keep s (movedQ kd t L s).2
  | [], s, h, _, _ => ⟨h, Keep.refl⟩
  | (pg, n) :: r, s, h, hn, hf => by
    rw [moved_cons] at hf ⊢
    by_cases hd : n ≠ 64 ∧ s.q.dark = true
    · rw [if_pos hd]; exact ⟨h, Keep.refl⟩
    · rw [if_neg hd] at hf ⊢
      have hl := fun hf2 => lay_wk (kd := kd) (t := t) (v := valueQ s pg n) h (hn _ List.mem_cons_self) hf2
      cases hlq : layQ kd t s n (valueQ s pg n) with
      | mk o s' =>
        rw [hlq] at hf hl
        cases o with
        | error e => exact hl hf
        | ok to =>
          dsimp only at hf ⊢
          rw [bindM_2] at hf ⊢
          have hle := (moved_le (kd := kd) (t := t) (L := r) (s := s')).stamp
          have h1 := hl (by dsimp only; omega)
          have h2 := moved_wk (kd := kd) (t := t) (L := r) (s := s') h1.1 (fun e he => hn e (List.mem_cons_of_mem _ he)) hf
          exact ⟨h2.1, h1.2.trans h2.2⟩
theorem moved_clear {kd : Kd} {t : Ts} {n : Nat} : ∀ {L : List (Int × Int)} {s s' : St} {ms : List Mv}, Wf s.q s.k → s.k.fil.getD n 0 = s.k.p → (∀ e ∈ L, 0 ≤ e.2 ∧ e.2 ≤ 64) → s'.k.stamp < 10 ^ 30 → (∀ nm pg, getI s.k.wh nm = some pg → pg / s.k.p = (n : Int) → ∃ e ∈ L, e.2 = nm) → movedQ kd t L s = (.ok ms, s') → NoLive s'.k n ∧ s'.k.fil.getD n 0 = s'.k.p
  | [], s, s', ms, h, hf, _, _, hl, e => by
    cases e
    refine ⟨fun nm pg hg hb => ?_, hf⟩
    obtain ⟨e, he, _⟩ := hl nm pg hg hb
    cases he
  | (pg, m) :: r, s, s', ms, h, hf, hn, hs, hl, e => by
    rw [moved_cons] at e
    by_cases hd : m ≠ 64 ∧ s.q.dark = true
    · rw [if_pos hd] at e; cases e
    · rw [if_neg hd] at e
      cases hlq : layQ kd t s m (valueQ s pg m) with
      | mk o s1 =>
        rw [hlq] at e
        cases o with
        | error x => cases e
        | ok to =>
          dsimp only at e
          have e2 : (bindM [⟨m, pg, to⟩] (movedQ kd t r s1)).2 = s' := by rw [e]
          rw [bindM_2] at e2
          cases hmr : movedQ kd t r s1 with
          | mk o2 s2 =>
            rw [hmr] at e e2
            dsimp only at e2
            subst e2
            cases o2 with
            | error x => cases e
            | ok l =>
              have hle1 := (lay_le (kd := kd) (t := t) (s := s) (n := m) (v := valueQ s pg m)).stamp
              have hle2 := (moved_le (kd := kd) (t := t) (L := r) (s := s1)).stamp
              rw [hlq] at hle1
              rw [hmr] at hle2
              dsimp only at hle1 hle2
              have hm := hn _ List.mem_cons_self
              have w1 := (lay_wk (kd := kd) (t := t) (v := valueQ s pg m) h hm (by rw [hlq]; dsimp only; omega)).1
              rw [hlq] at w1
              obtain ⟨s0, b, k1, k2, w0, sp, _, _, es⟩ := lay_done h hm (by omega) hlq
              have hp := h.bk.p
              have ekp := h.kp
              have hbn : b ≠ n := fun z => by
                have := sp.f1
                rw [z, k1, hf, k2.p] at this
                omega
              have ek : s1.k = s.k.note to m := by rw [es]
              have hfl : n < s.k.fil.length ∨ ¬ n < s.k.fil.length := Nat.lt_or_ge _ _ |>.imp id (by omega)
              refine moved_clear (kd := kd) (t := t) (L := r) (s := s1) w1 ?_ (fun e he => hn e (List.mem_cons_of_mem _ he)) hs (fun nm pg2 hg hb => ?_) hmr
              · have hblk : (to / s.k.p).toNat = b := by rw [ekp, ← k2.p, sp.blk, Int.toNat_natCast]
                rw [ek, note_fil, note_bp.2, hblk, getD_set', if_neg (fun z => hbn z.1.symm)]
                exact hf
              · rw [ek, note_wh] at hg
                rw [ek, note_bp.2] at hb
                split at hg
                · injection hg with hg
                  rw [← hg, ekp, ← k2.p, sp.blk] at hb
                  omega
                · rename_i hne
                  obtain ⟨e, he, e2⟩ := hl nm pg2 hg hb
                  rcases List.mem_cons.mp he with rfl | he
                  · exact absurd e2.symm hne
                  · exact ⟨e, he, e2⟩
theorem Wf.liveAll {s : St} (h : Wf s.q s.k) {n : Nat} : ∀ nm pg, getI s.k.wh nm = some pg → pg / s.k.p = (n : Int) → ∃ e ∈ liveQ s.k n, e.2 = nm := fun nm pg hg hb => by
  have hp := h.bk.p
  have h2 := Int.emod_nonneg pg (show s.k.p ≠ 0 by omega)
  have h3 := Int.emod_lt_of_pos pg (show 0 < s.k.p by omega)
  have h4 := Int.mul_ediv_add_emod pg s.k.p
  rw [hb, Int.mul_comm] at h4
  have e : pg = (n : Int) * s.k.p + ((pg % s.k.p).toNat : Int) := by omega
  have ho := (h.own nm pg hg).2
  refine ⟨(pg, nm), ?_, rfl⟩
  rw [e] at ho ⊢
  exact mem_liveQ (by omega) ho
theorem room_le {kd : Kd} {t : Ts} {s : St} : Le s (roomQ kd t s).2 := by
  unfold roomQ
  cases hc : choiceQ kd t s with
  | mk o ru' =>
    cases o with
    | none => exact ⟨Nat.le_refl _, Int.le_refl _, Nat.le_refl _⟩
    | some wb =>
      obtain ⟨why, b⟩ := wb
      dsimp only
      have h1 := moved_le (kd := kd) (t := t) (L := liveQ s.k b) (s := { s with ru := ru' })
      have h0 : Le s { s with ru := ru' } := ⟨Nat.le_refl _, Int.le_refl _, Nat.le_refl _⟩
      cases hm : movedQ kd t (liveQ s.k b) { s with ru := ru' } with
      | mk o1 s1 =>
        rw [hm] at h1
        cases o1 with
        | error e => exact h0.trans h1
        | ok mv =>
          dsimp only
          have h2 := (wipedQ_le (kd := kd) (t := t) (s := s1) (n := b)).1
          cases hw : wipedQ kd t s1 b with
          | mk o2 s2 =>
            rw [hw] at h2
            cases o2 with
            | error e => exact (h0.trans h1).trans h2
            | ok w =>
              refine (h0.trans h1).trans (h2.trans ⟨Nat.le_refl _, Int.le_refl _, ?_⟩)
              show s2.pp.length ≤ (s2.pp ++ [_]).length
              rw [List.length_append]
              omega
/-! walked -/
structure Ext (H : Hp) (G G' : PG) : Prop where
  eq : G' = { G with fp := G'.fp }
  fresh : ∀ a ∈ G'.fp, a ∈ G.fp ∨ H a = none
theorem Ext.refl {H : Hp} {G : PG} : Ext H G G := ⟨rfl, fun _ h => .inl h⟩
theorem Ext.mut {H : Hp} {G G' : PG} (h : Ext H G G') : G'.mut = G.mut := by rw [h.eq]; rfl
theorem Ext.all {H : Hp} {G G' : PG} (h : Ext H G G') {kd : Kd} : G'.all kd = G.all kd := by rw [h.eq]; cases kd <;> rfl
/-- nothing goes away -/
def Grow (H H' : Hp) : Prop := ∀ a, H' a = none → H a = none
theorem Grow.of {H H' : Hp} (s : Same H H') : Grow H H' := fun _ h => same_none s h
theorem Ext.trans {H H1 : Hp} {G G1 G2 : PG} (a : Ext H G G1) (g : Grow H H1) (b : Ext H1 G1 G2) : Ext H G G2 :=
  ⟨by rw [b.eq, a.eq], fun x hx => (b.fresh x hx).elim (a.fresh x) (fun h => .inr (g x h))⟩
theorem SP.grow {T : Txt K mg} {kd : Kd} {C : Addr} {H H' : Hp} {r : Addr} {G G' : PG} {t : Ts} {s : St} (h : SP P w base T kd C H' r G' t s) (o : Off (G.all kd) H H') (e : G'.all kd = G.all kd) : Grow H H' := fun a ha => by
  cases hh : H a with
  | none => rfl
  | some x =>
    exfalso
    by_cases hm : a ∈ G.all kd
    · obtain ⟨y, hy, _⟩ := h.there a (by rw [e]; exact hm)
      rw [ha] at hy
      cases hy
    · have := o.at hh hm
      rw [ha] at this
      cases this
theorem PapsAt.snoc {H H' : Hp} {fp fp' : List Addr} {p : Addr} {us : List Pap} {u : Pap} {v : V} {vs : List V} (h : PapsAt H fp p us) (e0 : H p = some (.lst vs)) (e : H' p = some (.lst (vs ++ [v]))) (kp : ∀ a ∈ fp, ∀ o, H a = some o → H' a = some o) (tt : TupS H H') (sub : ∀ a ∈ fp, a ∈ fp') (hv : PapAt H' fp' v u) : PapsAt H' fp' p (us ++ [u]) := by
  obtain ⟨vs', e1, el, h⟩ := h
  rw [e0] at e1
  cases e1
  refine ⟨_, e, by rw [List.length_append, List.length_append, el]; rfl, fun i x y hx hy => ?_⟩
  by_cases hi : i < vs.length
  · rw [List.getElem?_append_left hi] at hx
    rw [List.getElem?_append_left (el ▸ hi)] at hy
    exact (h i x y hx hy).at kp tt sub
  · have e : i = vs.length := by
      have := (List.getElem?_eq_some_iff.mp hx).1
      rw [List.length_append, List.length_singleton] at this
      omega
    subst e
    rw [List.getElem?_append_right (Nat.le_refl _), Nat.sub_self] at hx
    rw [el, List.getElem?_append_right (Nat.le_refl _), Nat.sub_self] at hy
    cases hx
    cases hy
    exact hv
theorem SP.papC {T : Txt K mg} {kd : Kd} {C : Addr} {H H' : Hp} {r : Addr} {G : PG} {t : Ts} {s : St} (h : SP P w base T kd C H r G t s) (hk : kd ≠ .plain) {fp' : List Addr} {us : List Pap} (o : Off [G.pa] H H') (hpap : PapsAt H' fp' G.pa us) (nw : ∀ a ∈ fp', a ∈ G.fp ∨ (a ∉ G.all kd ∧ a ≠ r ∧ a ≠ G.rt ∧ ∃ xs, H' a = some (.lst xs))) : SP P w base T kd C H' r { G with fp := fp' } t { s with pp := us } := by
  obtain ⟨vs, hvs⟩ := h.pp hk
  have tt := o.tupsL hvs
  have ea : PG.all kd { G with fp := fp' } = G.all kd := by cases kd <;> rfl
  have eo : objF kd { G with fp := fp' } = objF kd G := by cases kd <;> rfl
  have ma : G.pa ∈ G.all kd := by rw [PG.all_store hk]; exact List.mem_append_right _ List.mem_cons_self
  have far : ∀ {a : Addr} {x : HO}, a ≠ G.pa → H a = some x → H' a = some x := fun ha hx => o.at hx (nin_of ha)
  have nm : ∀ a ∈ G.mut, a ∉ [G.pa] := fun a ha => nin_of (fun z => (h.np hk).1 (z ▸ ha))
  refine ⟨h.v, by rw [eo]; exact far (fun z => h.nr (by rw [z]; exact ma)) h.obj, h.chip.off o (fun a ha => nm a (List.mem_append_left _ ha)) tt, far (fun z => h.nt (by rw [z]; exact ma)) h.terms, h.book.off o (fun a ha => nm a (List.mem_append_right _ ha)), fun _ => (h.rule hk).off o (fun a ha => nin_of ((h.np hk).2 a ha).2) tt, fun _ => hpap, h.wf, h.tb, by rw [ea]; exact h.nr, by rw [ea]; exact h.nt, h.cb, h.np, fun _ a ha => ?_, fun _ a ha => ?_⟩
  · rw [ea]
    rcases nw a ha with z | ⟨z1, z2, z3, _⟩
    · exact h.nf hk a z
    · exact ⟨z1, z2, z3⟩
  · rcases nw a ha with z | ⟨_, _, _, z⟩
    · exact (h.fa hk a z).imp fun _ => far (fun y => (h.nf hk a z).1 (by rw [y]; exact ma))
    · exact z
theorem x_qMoved {T : Txt K mg} {kd : Kd} {C : Addr} {H : Hp} {Q : VK} {E : XK} {σ : L2.St} {r : Addr} {G : PG} {t : Ts} {s : St} {ta : TA} (hk : kd ≠ .plain) (hP : SP P w base T kd C H r G t s) (h : ta σ H fun vs H2 => spMovedQ T P w base (.ref r :: vs) H2 Q E) : mtK P w K mg base (L2.CX P w) 11 "moved" E σ ta Q (.ref r) H :=
  x_mtK hP.obj ⟨⟨_, _, _, hP.v.cl, hP.v.moved hk, ok_Store_moved T, T.bd_Store_moved⟩⟩ (hP.lk (by rfl)) h
def spRoomQ (T : Txt K mg) (P : Program) (w : World) (base : Heap) : Sp := fun vs H Q E => ∃ (kd : Kd) (C r : Addr) (G : PG) (t : Ts) (s : St), vs = [.ref r] ∧ kd ≠ .plain ∧ SP P w base T kd C H r G t s ∧ Fits (roomQ kd t s).2 ∧
  ∀ H' G', Ext H G G' → Off (G.all kd) H H' → SP P w base T kd C H' r G' t (roomQ kd t s).2 → Out T (roomQ kd t s).1 (fun u H' => ∀ a so mo, H' a = some (.tup [.str u.why, .ref so, .int u.blk, .ref mo, .bl u.well]) → TL H' so u.some → MvL H' mo u.mv → (H so = none ∧ H mo = none ∧ so ∉ G'.fp ∧ mo ∉ G'.fp ∧ so ≠ mo) → Q (.ref a) H') E H'
theorem ok_Store_make_room (T : Txt K mg) : FO P w K mg base 22 T.a_Store_make_room T.fd_Store_make_room ["self"] (spRoomQ T P w base) := by
  have sc := sc_Store_make_room
  refine T.F_Store_make_room.okX sc (fun vs H Q E h => ?_) (fun cdv A outer s H vs Q E hr h => ?_)
  · obtain ⟨_, _, _, _, _, _, rfl, _⟩ := h
    rfl
  obtain ⟨kd, C, r, G, t, s, rfl, hk, hP, hf, q⟩ := h
  refine ⟨_, (pss_cons (ps_set (i := 1) sc.nd rfl (by first | exact Or.inl rfl | exact Or.inr rfl) (pe_methD0 (k := 11) (pv 0) (hr.mono (by decide)) (passAt (takes_of rfl rfl rfl rfl))))
      (pss_cons (ps_asg (pe_methD0 (k := 21) (pv 0) (hr.mono (by decide)) (passAt (takes_of rfl rfl rfl rfl))) (pg_tup (by rfl) (pgs_cons (pg_name (i := 2) sc.nd rfl (by first | exact Or.inl rfl | exact Or.inr rfl)) (pgs_cons (pg_name (i := 3) sc.nd rfl (by first | exact Or.inl rfl | exact Or.inr rfl)) pgs_nil))))
      (pss_cons (ps_set (i := 4) sc.nd rfl (by first | exact Or.inl rfl | exact Or.inr rfl) (pe_methD (k := 11) (pv 0) (hr.mono (by decide)) (passAt (takes_of rfl rfl rfl rfl)) (pa_cons (pv 3) pa_nil)))
      (pss_cons (ps_set (i := 5) sc.nd rfl (by first | exact Or.inl rfl | exact Or.inr rfl) (pe_methD (k := 10) (pv 0) (hr.mono (by decide)) (passAt (takes_of rfl rfl rfl rfl)) (pa_cons (pv 3) pa_nil)))
      (pss_cons (ps_expr (pe_bm PySem.F.plainAttrs_list PySem.F.slot_list_append PySem.F.type_list_append mt_append (pe_fld (pv 0) rfl) (pa_cons (pe_tup (pa_cons (pv 2) (pa_cons (pv 1) (pa_cons (pv 3) (pa_cons (pv 4) (pa_cons (pv 5) pa_nil)))))) pa_nil)))
      (pss_one (ps_ret (pe_tup (pa_cons (pv 2) (pa_cons (pe_callTy ct_list (by rfl) T.b_list bt_list (pa_cons (pv 1) pa_nil)) (pa_cons (pv 3) (pa_cons (pe_callTy ct_list (by rfl) T.b_list bt_list (pa_cons (pv 4) pa_nil)) (pa_cons (pv 5) pa_nil))))))))))))), ?_⟩
  have vcl := hP.v.cl
  have vn5 := hP.v.n5 hk
  have hfs := room_le.fits hf
  have hRok := (hP.rule hk).ok
  walk_at "begin"
  walk_at "go"
  refine x_qOpts hk hP fun p1 H1 hs1 hp1 hT1 => ?_
  have hP1 := hP.mono hs1
  obtain ⟨os, hos, hoa⟩ := hT1
  walk_at "go"
  refine x_qChoice hk hP1 hfs fun H2 hO2 hP2 => ?_
  have a2 : Off (G.all kd) H1 H2 := hO2.sub fun b hb => by rw [PG.all_store hk]; exact List.mem_append_right _ (List.mem_cons_of_mem _ hb)
  have k1 : p1 ∉ G.all kd := hP.fresh hp1
  have hos2 := a2.at hos k1
  have tt12 := hP1.tups a2
  cases hc : choiceQ kd t s with
  | mk o ru' =>
    have hrq : roomQ kd t s = (match (o, ru') with
      | (none, ru') => (.error .noroom, { s with ru := ru' })
      | (some (why, b), ru') => match movedQ kd t (liveQ s.k b) { s with ru := ru' } with
        | (.error e, s') => (.error e, s')
        | (.ok mv, s') => match wipedQ kd t s' b with
          | (.error e, s'') => (.error e, s'')
          | (.ok w, s'') => (.ok ⟨why, optsQ kd t s.q s.k, b, mv, w⟩, { s'' with pp := s''.pp ++ [⟨why, optsQ kd t s.q s.k, b, mv, w⟩] })) := by unfold roomQ; rw [hc]
    rw [hc] at hP2
    dsimp only at hP2
    cases o with
    | none =>
      dsimp only at hrq ⊢
      rw [hrq] at q
      exact q H2 G Ext.refl ((Off.of hs1).trans a2) hP2
    | some wb =>
      obtain ⟨why, b⟩ := wb
      obtain ⟨n, eb, hn, hbr, hfn, hln⟩ := choice_full hRok (show (choiceQ kd t s).1 = some (why, b) by rw [hc])
      subst eb
      dsimp only at hrq ⊢
      intro pc hpc hnc
      have hrf : ∀ a x, a ∉ G.rf → H1 a = some x → H2 a = some x := fun a x ha hx => hO2.at hx ha
      have hn2 : 0 ≤ (n : Int) ∧ (n : Int) < s.q.b := by omega
      have hfm : Fits (movedQ kd t (liveQ s.k n) { s with ru := ru' }).2 := by
        cases hm : movedQ kd t (liveQ s.k n) { s with ru := ru' } with
        | mk o1 s1 =>
          rw [hm] at hrq
          cases o1 with
          | error e => rw [hrq] at hf; exact hf
          | ok mv =>
            dsimp only at hrq
            have h2 := (wipedQ_le (kd := kd) (t := t) (s := s1) (n := (n : Int))).1
            cases hw : wipedQ kd t s1 n with
            | mk o2 s2 =>
              rw [hw] at hrq h2
              cases o2 with
              | error e => rw [hrq] at hf; exact h2.fits hf
              | ok w =>
                rw [hrq] at hf
                refine h2.fits ⟨hf.1, hf.2.1, Nat.lt_of_le_of_lt ?_ hf.2.2⟩
                show s2.pp.length ≤ (s2.pp ++ [_]).length
                rw [List.length_append]
                omega
      refine x_gtup2 (SqT.of hnc) ?_
      dsimp only [List.set]
      walk_at "go"
      refine x_qMoved hk hP2 ?_
      walk_at "go"
      refine ⟨kd, C, r, G, t, { s with ru := ru' }, n, rfl, hk, hP2, hn2, hfm, fun H3 hO3 hP3 => ?_⟩
      have hO3' : Off (G.all kd) H2 H3 := hO3.sub fun b hb => PG.mut_all hb
      have o03 : Off (G.all kd) H H3 := ((Off.of hs1).trans a2).trans hO3'
      have hos3 := hO3'.at hos2 k1
      have tt23 := hP2.tups hO3'
      cases hm : movedQ kd t (liveQ s.k n) { s with ru := ru' } with
      | mk o1 s1 =>
        rw [hm] at hrq hP3
        cases o1 with
        | error e =>
          rw [hrq] at q
          exact q H3 G Ext.refl o03 hP3
        | ok mv =>
          dsimp only at hrq hP3
          have hmc := moved_clear (kd := kd) (t := t) (n := n) (s := { s with ru := ru' }) hP.wf (by show s.k.fil.getD n 0 = s.k.p; rw [hfn, hP.tb.2, hP.wf.kp]) (fun e he => (hP.wf.liveOk hn2 he).1.nm) (by rw [hm] at hfm; exact hfm.2.1) hP.wf.liveAll hm
          have hkp := (moved_wk (kd := kd) (t := t) (L := liveQ s.k n) (s := { s with ru := ru' }) hP.wf (fun e he => (hP.wf.liveOk hn2 he).1.nm) hfm.2.1).2
          rw [hm] at hkp
          have hn3 : n < s1.q.b.toNat := by rw [show s1.q.b = s.q.b from hkp.b]; exact hn
          unfold Out
          dsimp only
          intro p2 hp2 ⟨mvs, hmvs, hma⟩
          have k2 : p2 ∉ G.all kd := hP2.fresh hp2
          have n12 : p1 ≠ p2 := ne_of_none hos2 hp2
          walk_at "go"
          refine x_qWiped hk hP3 ?_
          walk_at "go"
          have hfw : Fits (wipedQ kd t s1 n).2 := by
            cases hw : wipedQ kd t s1 n with
            | mk o2 s2 =>
              rw [hw] at hrq
              cases o2 with
              | error e => rw [hrq] at hf; exact hf
              | ok w =>
                rw [hrq] at hf
                refine ⟨hf.1, hf.2.1, Nat.lt_of_le_of_lt ?_ hf.2.2⟩
                show s2.pp.length ≤ (s2.pp ++ [_]).length
                rw [List.length_append]
                omega
          refine ⟨C, r, G, t, s1, n, rfl, hk, hP3, hn3, hmc.1, hfw, fun H4 hO4 hP4 => ?_⟩
          have hO4' : Off (G.all kd) H3 H4 := hO4.sub fun b hb => PG.mut_all hb
          have o04 := o03.trans hO4'
          have hos4 := hO4'.at hos3 k1
          have hmv4 := hO4'.at hmvs k2
          have tt34 := hP3.tups hO4'
          cases hw : wipedQ kd t s1 n with
          | mk o2 s2 =>
            rw [hw] at hrq hP4
            cases o2 with
            | error e =>
              rw [hrq] at q
              exact q H4 G Ext.refl o04 hP4
            | ok wl =>
              dsimp only at hrq hP4
              rw [hrq] at q hf
              have ho4 := ne_plain hP4 hk
              obtain ⟨pvs, hpvs⟩ := hP4.pp hk
              unfold coreF at ho4
              have np1 : p1 ≠ G.pa := fun z => k1 (by rw [z, PG.all_store hk]; exact List.mem_append_right _ List.mem_cons_self)
              have np2 : p2 ≠ G.pa := fun z => k2 (by rw [z, PG.all_store hk]; exact List.mem_append_right _ List.mem_cons_self)
              have hpl : pvs.length < sizeLine := Nat.lt_of_lt_of_le (m := 900000) (by
                obtain ⟨vs', e1, el, _⟩ := hP4.pap hk
                rw [hpvs] at e1
                cases e1
                rw [el]
                have := hf.2.2
                rw [List.length_append] at this
                exact Nat.lt_of_le_of_lt (Nat.le_add_right _ _) this) (by decide)
              have o04' := o04
              clear hO4 hO4' hO3 hO3' o03 o04 hO2 a2
              unfold Out
              dsimp only
              walk_at "go"
              rename_i tp H5 htp hs5 hn5 H6 hO6 hI6 so H7 hso hs7 hn7 mo H8 hmo hs8 hn8 pr H9 hpr hs9 hn9
              have hP5 := hP4.mono hs5
              have tt45 : TupS H4 H5 := TupS.of hs5
              have tt56 : TupS H5 H6 := hO6.tupsL (hs5 _ _ hpvs)
              have tt46 := tt45.trans tt56
              have tt16 := ((tt12.trans tt23).trans tt34).trans tt46
              have hos6 : H6 p1 = some (.lst os) := hO6.at (hs5 _ _ hos4) (nin_of np1)
              have hmv6 : H6 p2 = some (.lst mvs) := hO6.at (hs5 _ _ hmv4) (nin_of np2)
              have hT6 : TL H6 p1 (optsQ kd t s.q s.k) := ⟨os, hos6, hoa.mono tt16⟩
              have hM6 : MvL H6 p2 mv := ⟨mvs, hmv6, hma.mono (tt34.trans tt46)⟩
              have o06 : Off (G.all kd) H H6 := (o04'.trans (Off.of hs5)).trans (hO6.sub fun b hb => by rw [List.mem_singleton.mp hb, PG.all_store hk]; exact List.mem_append_right _ List.mem_cons_self)
              have hpap : PapsAt H6 (p1 :: p2 :: G.fp) G.pa (s2.pp ++ [⟨why, optsQ kd t s.q s.k, (n : Int), mv, wl⟩]) := by
                refine (hP5.pap hk).snoc (hs5 _ _ hpvs) hI6 (fun a ha o e => hO6.at e (nin_of (fun z => (hP.nf hk a ha).1 (by rw [z, PG.all_store hk]; exact List.mem_append_right _ List.mem_cons_self)))) tt56 (fun a ha => List.mem_cons_of_mem _ (List.mem_cons_of_mem _ ha)) ⟨tp, p1, p2, rfl, tt56 _ _ hn5, hT6, hM6, List.mem_cons_self, List.mem_cons_of_mem _ List.mem_cons_self⟩
              have hp2' : H p2 = none := by
                have g : Grow H H2 := fun a ha => by
                  cases hh : H a with
                  | none => rfl
                  | some x =>
                    exfalso
                    by_cases hm : a ∈ G.rf
                    · obtain ⟨y, hy, _⟩ := (hP2.rule hk).there a hm
                      rw [ha] at hy
                      cases hy
                    · have h1 := hs1 _ _ hh
                      have : H2 a = some x := hrf a x hm h1
                      rw [ha] at this
                      cases this
                exact g p2 hp2
              have hP6 := hP5.papC hk (fp' := p1 :: p2 :: G.fp) hO6 hpap (fun a ha => by
                rcases List.mem_cons.mp ha with rfl | ha
                · exact .inr ⟨k1, (hP.freshR hp1).1.symm, (hP.freshR hp1).2.symm, _, hos6⟩
                rcases List.mem_cons.mp ha with rfl | ha
                · exact .inr ⟨k2, (hP.freshR hp2').1.symm, (hP.freshR hp2').2.symm, _, hmv6⟩
                · exact .inl ha)
              have s69 := (hs7.trans hs8).trans hs9
              have g06 : Grow H H6 := hP6.grow o06 (by cases kd <;> rfl)
              refine q H9 { G with fp := p1 :: p2 :: G.fp } ⟨rfl, fun a ha => ?_⟩ (o06.trans (Off.of s69)) (hP6.mono s69) pr so mo hn9 ⟨os, hs9 _ _ (hs8 _ _ hn7), hoa.mono (tt16.trans (TupS.of s69))⟩ ⟨mvs, hs9 _ _ hn8, hma.mono ((tt34.trans tt46).trans (TupS.of s69))⟩ ⟨g06 _ hso, g06 _ (same_none hs7 hmo), fun z => ?_, fun z => ?_, ne_of_none hn7 hmo⟩
              · rcases List.mem_cons.mp ha with rfl | ha
                · exact .inr hp1
                rcases List.mem_cons.mp ha with rfl | ha
                · exact .inr hp2'
                · exact .inl ha
              · obtain ⟨xs, hx⟩ := hP6.fa hk so z
                rw [hso] at hx
                cases hx
              · obtain ⟨xs, hx⟩ := hP6.fa hk mo z
                rw [same_none hs7 hmo] at hx
                cases hx
theorem x_qRoom {T : Txt K mg} {kd : Kd} {C : Addr} {H : Hp} {Q : VK} {E : XK} {σ : L2.St} {r : Addr} {G : PG} {t : Ts} {s : St} (hk : kd ≠ .plain) (hP : SP P w base T kd C H r G t s) (hf : Fits (roomQ kd t s).2) (q : ∀ H' G', Ext H G G' → Off (G.all kd) H H' → SP P w base T kd C H' r G' t (roomQ kd t s).2 → Out T (roomQ kd t s).1 (fun u H' => ∀ a so mo, H' a = some (.tup [.str u.why, .ref so, .int u.blk, .ref mo, .bl u.well]) → TL H' so u.some → MvL H' mo u.mv → (H so = none ∧ H mo = none ∧ so ∉ G'.fp ∧ mo ∉ G'.fp ∧ so ≠ mo) → Q (.ref a) H') E H') : mtK P w K mg base (L2.CX P w) 22 "make_room" E σ tNil Q (.ref r) H :=
  x_mtK hP.obj ⟨⟨_, _, _, hP.v.cl, hP.v.make_room hk, ok_Store_make_room T, T.bd_Store_make_room⟩⟩ (hP.lk (by rfl)) ⟨kd, C, r, G, t, s, rfl, hk, hP, hf, q⟩
/-! ### until a page can be put -/
theorem rooms_le {kd : Kd} {t : Ts} : ∀ {f : Nat} {s : St}, Le s (roomsQ kd t f s).2
  | 0, s => Le.refl
  | f + 1, s => by
    unfold roomsQ
    split
    · exact Le.refl
    · have h1 := room_le (kd := kd) (t := t) (s := s)
      cases hr : roomQ kd t s with
      | mk o s' =>
        rw [hr] at h1
        cases o with
        | error e => exact h1
        | ok u => exact h1.trans rooms_le
theorem rooms_succ {kd : Kd} {t : Ts} {f : Nat} {s : St} : roomsQ kd t (f + 1) s = if readyQ kd t s.q s.k = true then (.ok (), s) else match roomQ kd t s with
    | (.error e, s') => (.error e, s')
    | (.ok _, s') => roomsQ kd t f s' := rfl
def spMkReadyQ (T : Txt K mg) (kd : Kd) (P : Program) (w : World) (base : Heap) : Sp := fun vs H Q E => ∃ (C r : Addr) (G : PG) (t : Ts) (s : St) (f : Nat), vs = [.ref r] ∧ SP P w base T kd C H r G t s ∧ Fits (mkReadyQ kd t f s).2 ∧
  ∀ H' G', Ext H G G' → Off (G.all kd) H H' → SP P w base T kd C H' r G' t (mkReadyQ kd t f s).2 → Out T (mkReadyQ kd t f s).1 (fun _ H' => Q .non H') E H'
theorem ok_Plain_make_ready (T : Txt K mg) : FO P w K mg base 23 T.a_Plain_make_ready T.fd_Plain_make_ready ["self"] (spMkReadyQ T .plain P w base) := by
  have sc := sc_Plain_make_ready
  refine T.F_Plain_make_ready.okX sc (fun vs H Q E h => ?_) (fun cdv A outer s H vs Q E hr h => ?_)
  · obtain ⟨_, _, _, _, _, _, rfl, _⟩ := h
    rfl
  obtain ⟨C, r, G, t, s, f, rfl, hP, hf, q⟩ := h
  refine ⟨_, (pss_one (ps_if (pt_not (pt_truth (pe_methD0 (k := 8) (pv 0) (hr.mono (by decide)) (passAt (takes_of rfl rfl rfl rfl))) (by intro _; rfl))) (pss_one (ps_raiseK rfl (takes_of rfl rfl rfl rfl) (pmk_ownK T.xc_NoRoom T.g_NoRoom rfl))) pss_nil)), ?_⟩
  walk_at "begin"
  walk_at "go"
  refine x_qReady hP fun H1 hs1 => ?_
  have q1 := q H1 G Ext.refl (Off.of hs1)
  unfold mkReadyQ at q1
  dsimp only at q1
  cases hr2 : readyQ .plain t s.q s.k with
  | true =>
    rw [hr2, if_pos rfl] at q1
    walk_at "go"
    exact q1 (hP.mono hs1)
  | false =>
    rw [hr2, if_neg (by decide)] at q1
    walk_at "go"
    exact q1 (hP.mono hs1)
theorem ok_Store_make_ready (T : Txt K mg) {kd : Kd} (hk : kd = .store ∨ kd = .even) : FO P w K mg base 23 T.a_Store_make_ready T.fd_Store_make_ready ["self"] (spMkReadyQ T kd P w base) := by
  have sc := sc_Store_make_ready
  refine T.F_Store_make_ready.okX sc (fun vs H Q E h => ?_) (fun cdv A outer s H vs Q E hr h => ?_)
  · obtain ⟨_, _, _, _, _, _, rfl, _⟩ := h
    rfl
  obtain ⟨C, r, G, t, s, f, rfl, hP, hf, q⟩ := h
  refine ⟨_, (pss_one (ps_while (passes_of rfl) (pt_not (pt_truth (pe_methD0 (k := 8) (pv 0) (hr.mono (by decide)) (passAt (takes_of rfl rfl rfl rfl))) (by intro _; rfl))) (pss_one (ps_expr (pe_methD0 (k := 22) (pv 0) (hr.mono (by decide)) (passAt (takes_of rfl rfl rfl rfl))))))), ?_⟩
  have hkp : kd ≠ .plain := by rcases hk with rfl | rfl <;> intro z <;> cases z
  have em : mkReadyQ kd t f s = roomsQ kd t f s := by rcases hk with rfl | rfl <;> rfl
  rw [em] at hf q
  walk_at "begin"
  walk_at "go"
  refine x_whl (fun m σ H' => σ = [some (.ref r)] ∧ ∃ s' G', Ext H G G' ∧ Off (G.all kd) H H' ∧ SP P w base T kd C H' r G' t s' ∧ roomsQ kd t f s = roomsQ kd t m s') f ⟨rfl, s, G, Ext.refl, Off.refl, hP, rfl⟩ ?_
  intro m σ H' ⟨hσ, s', G', hx, hO, hP', he⟩
  subst hσ
  have hO' := hO
  clear hO
  walk_at "go"
  refine x_qReady hP' fun H1 hs1 => ?_
  have hP1 := hP'.mono hs1
  have o1 := hO'.trans (Off.of hs1)
  cases m with
  | zero =>
    have q1 := q H1 G' hx o1
    rw [he] at q1
    exact (q1 hP1).elim
  | succ m =>
    rw [rooms_succ] at he
    cases hr2 : readyQ kd t s'.q s'.k with
    | true =>
      rw [hr2, if_pos rfl] at he
      have q1 := q H1 G' hx o1
      rw [he] at q1
      clear o1
      walk_at "go"
      exact q1 hP1
    | false =>
      rw [hr2, if_neg (by decide)] at he
      clear o1
      walk_at "go"
      refine ⟨fun σ' H2 => σ' = [some (.ref r)] ∧ ∃ s2 G2, Ext H G G2 ∧ Off (G.all kd) H H2 ∧ SP P w base T kd C H2 r G2 t s2 ∧ roomsQ kd t f s = roomsQ kd t m s2, fun σ' H2 h => ⟨m, Nat.lt_succ_self m, h⟩, ?_⟩
      have o1 := hO'.trans (Off.of hs1)
      have hfr : Fits (roomQ kd t s').2 := by
        cases hro : roomQ kd t s' with
        | mk o s2 =>
          rw [hro] at he
          cases o with
          | error e => rw [he] at hf; exact hf
          | ok u => rw [he] at hf; exact rooms_le.fits hf
      have o1' := o1
      clear o1
      walk_at "go"
      refine x_qRoom hkp hP1 hfr fun H2 G2 hx2 hO2 hP2 => ?_
      have ea : G'.all kd = G.all kd := hx.all
      have o2 : Off (G.all kd) H H2 := o1'.trans (by rw [← ea]; exact hO2)
      have g1 : Grow H H1 := hP1.grow o1' ea
      have hx3 := hx.trans g1 hx2
      clear hO2
      cases hro : roomQ kd t s' with
      | mk o s2 =>
        rw [hro] at he hP2
        cases o with
        | error e =>
          have q2 := q H2 G2 hx3 o2
          rw [he] at q2
          exact q2 hP2
        | ok u =>
          unfold Out
          dsimp only
          intro a so mo _ _ _ _
          exact ⟨rfl, s2, G2, hx3, o2, hP2, he⟩
/-! ### a sure store's readiness -/
theorem x_qMkReady {T : Txt K mg} {kd : Kd} {C : Addr} {H : Hp} {Q : VK} {E : XK} {σ : L2.St} {r : Addr} {G : PG} {t : Ts} {s : St} (f : Nat) (hP : SP P w base T kd C H r G t s) (hf : Fits (mkReadyQ kd t f s).2) (q : ∀ H' G', Ext H G G' → Off (G.all kd) H H' → SP P w base T kd C H' r G' t (mkReadyQ kd t f s).2 → Out T (mkReadyQ kd t f s).1 (fun _ H' => Q .non H') E H') : mtK P w K mg base (L2.CX P w) 23 "make_ready" E σ tNil Q (.ref r) H := by
  have hok := hP.v.ok
  have hm := hP.v.make_ready
  cases kd with
  | plain =>
    exact x_mtK hP.obj ⟨⟨_, _, _, hP.v.cl, hm, ok_Plain_make_ready T, T.bd_Plain_make_ready⟩⟩ (hP.lk (by rfl)) ⟨C, r, G, t, s, f, rfl, hP, hf, q⟩
  | store =>
    exact x_mtK hP.obj ⟨⟨_, _, _, hP.v.cl, hm, ok_Store_make_ready T (.inl rfl), T.bd_Store_make_ready⟩⟩ (hP.lk (by rfl)) ⟨C, r, G, t, s, f, rfl, hP, hf, q⟩
  | even =>
    exact x_mtK hP.obj ⟨⟨_, _, _, hP.v.cl, hm, ok_Store_make_ready T (.inr rfl), T.bd_Store_make_ready⟩⟩ (hP.lk (by rfl)) ⟨C, r, G, t, s, f, rfl, hP, hf, q⟩
  | sure =>
    exact hok.elim
/-! ### writing, giving up -/
def spWriteQ (T : Txt K mg) (P : Program) (w : World) (base : Heap) : Sp := fun vs H Q E => ∃ (kd : Kd) (C r : Addr) (G : PG) (t : Ts) (s : St) (f : Nat) (vn vv : V) (on ov : Option Int), vs = [.ref r, vn, vv] ∧ SP P w base T kd C H r G t s ∧ t.s ≤ 64 ∧ Num vn on ∧ Num vv ov ∧
  (inB on 0 (t.s - 1) = false → FinR T .nosheet E H) ∧
  (inB on 0 (t.s - 1) = true → inB ov 0 (10 ^ 30 - 1) = false → FinR T .novalue E H) ∧
  (∀ n v, on = some n → ov = some v → inB on 0 (t.s - 1) = true → inB ov 0 (10 ^ 30 - 1) = true → Fits (writeQ kd t f s n v).2 ∧
    ∀ H' G', Ext H G G' → Off (G.all kd) H H' → SP P w base T kd C H' r G' t (writeQ kd t f s n v).2 → Out T (writeQ kd t f s n v).1 (fun pg H' => Q (.int pg) H') E H')
theorem ok_Plain_write (T : Txt K mg) : FO P w K mg base 24 T.a_Plain_write T.fd_Plain_write ["self", "sheet", "value"] (spWriteQ T P w base) := by
  have sc := sc_Plain_write
  refine T.F_Plain_write.okX sc (fun vs H Q E h => ?_) (fun cdv A outer s H vs Q E hr h => ?_)
  · obtain ⟨_, _, _, _, _, _, _, _, _, _, _, rfl, _⟩ := h
    rfl
  obtain ⟨kd, C, r, G, t, s, f, vn, vv, on, ov, rfl, hP, hts, hn, hv, q1, q2, q3⟩ := h
  refine ⟨_, (pss_cons (ps_expr (pe_methD (k := 3) (pv 0) (hr.mono (by decide)) (passAt (takes_of rfl rfl rfl rfl)) (pa_cons (pv 1) pa_nil)))
      (pss_cons (ps_if (pt_not (pt_truth (pe_callS (ok_is_within T) (hr.mono (by decide)) (by rfl) T.g_is_within T.k_is_within T.bd_is_within (passAt (takes_of rfl rfl rfl rfl)) (pa_cons (pv 2) (pa_cons pe_int (pa_cons (pe_op op_sub (pe_op op_pow pe_int pe_int) pe_int) pa_nil)))) (by intro _; rfl))) (pss_one (ps_raiseK rfl (takes_of rfl rfl rfl rfl) (pmk_ownK T.xc_NoValue T.g_NoValue rfl))) pss_nil)
      (pss_cons (ps_if (PW.pt (pw_and (pt_cmp (pc_dnotin (hu_of hr) (pv 1) (pe_fld (pe_fld (pv 0) rfl) rfl))) (pw_and1 (pt_cmpR op_ge (pe_callB (cr_ulen) (by rfl) T.b_len bt_len (pa_cons (pe_methD0 (k := 3) (pv 0) (hr.mono (by decide)) (passAt (takes_of rfl rfl rfl rfl))) pa_nil)) (pe_fld (pe_fld (pv 0) rfl) rfl) (nomark _))))) (pss_one (ps_raiseK rfl (takes_of rfl rfl rfl rfl) (pmk_ownK T.xc_Full T.g_Full rfl))) pss_nil)
      (pss_cons (ps_expr (pe_methD0 (k := 23) (pv 0) (hr.mono (by decide)) (passAt (takes_of rfl rfl rfl rfl))))
      (pss_one (ps_ret (pe_methD (k := 10) (pv 0) (hr.mono (by decide)) (passAt (takes_of rfl rfl rfl rfl)) (pa_cons (pv 1) (pa_cons (pv 2) pa_nil))))))))), ?_⟩
  have vcl := hP.v.cl
  have vn2 := hP.v.n2
  have vn3 := hP.v.n3
  have ho := hP.obj
  have hot := hP.terms
  have hob := hP.book.obj
  have hwh := hP.book.wh
  unfold objF coreF at ho
  unfold termF at hot
  unfold bookF at hob
  walk_at "begin"
  walk_at "go"
  refine x_qNeedSheet hP ?_
  walk_at "go"
  refine x_needSheetQ hP hn (fun hin => ?_) (fun hin => q1 hin)
  have q2' := q2 hin
  obtain ⟨n, rfl, rfl, h0, h1⟩ := hn.of_inB hin
  walk_at "go"
  walk_at "if"
  refine x_wNum hv ?_
  walk_at "go"
  refine x_iteB (fun hb => ?_) (fun hb => ?_)
  rotate_left
  · walk_at "go"
    exact q2' hb
  obtain ⟨v, rfl, rfl, h2, h3⟩ := hv.of_inB hb
  obtain ⟨hf, q5⟩ := q3 n v rfl rfl hin hb
  have ew : writeQ kd t f s n v = if getI s.k.wh n = none ∧ t.h ≤ ((heldL s.k).length : Int) then (.error .full, s) else match mkReadyQ kd t f s with
    | (.error e, s') => (.error e, s')
    | (.ok _, s') => layQ kd t s' n v := rfl
  walk_at "go"
  refine x_join (fun σ' H' => σ' = [some (.ref r), some (.int n), some (.int v)] ∧ Same H H' ∧ ¬ (getI s.k.wh n = none ∧ t.h ≤ ((heldL s.k).length : Int))) (fun R hR => ?_) ?_
  · walk_at "go"
    rw [valV_I]
    cases hg : getI s.k.wh n with
    | some pg =>
      refine iteT ?_
      walk_at "go"
      refine hR _ _ ⟨rfl, fun _ _ h => h, fun z => by
        have := z.1
        rw [hg] at this
        cases this⟩
    | none =>
      refine iteF ?_
      walk_at "go"
      refine x_qHeld hP fun p H1 hs1 hp1 hn1 => ?_
      have ho1 := hs1 _ _ ho
      have hot1 := hs1 _ _ hot
      walk_at "go"
      refine x_iteD (fun hf2 => ?_) (fun hf2 => ?_)
      · walk_at "go"
        rw [if_pos ⟨hg, by omega⟩] at ew
        have q6 := q5 H1 G Ext.refl (Off.of hs1)
        rw [ew] at q6
        exact q6 (hP.mono hs1)
      · walk_at "go"
        exact hR _ _ ⟨rfl, hs1, fun z => hf2 (by have := z.2; omega)⟩
  intro σ' H1 ⟨hσ, hs1, hnf⟩
  subst hσ
  rw [if_neg hnf] at ew
  have hP1 := hP.mono hs1
  have hfm : Fits (mkReadyQ kd t f s).2 := by
    cases hm : mkReadyQ kd t f s with
    | mk o s1 =>
      rw [hm] at ew
      cases o with
      | error e => rw [ew] at hf; exact hf
      | ok u => rw [ew] at hf; exact lay_le.fits hf
  walk_at "go"
  refine x_qMkReady f hP1 hfm fun H2 G2 hx2 hO2 hP2 => ?_
  have hx : Ext H G G2 := Ext.refl.trans (Grow.of hs1) hx2
  have o2 : Off (G.all kd) H H2 := (Off.of hs1).trans hO2
  clear hO2
  cases hm : mkReadyQ kd t f s with
  | mk o s1 =>
    rw [hm] at ew hP2
    cases o with
    | error e =>
      have q6 := q5 H2 G2 hx o2
      rw [ew] at q6
      exact q6 hP2
    | ok u =>
      dsimp only at ew hP2
      rw [ew] at hf q5
      unfold Out
      dsimp only
      have o2' := o2
      clear o2
      walk_at "go"
      refine x_qLay hP2 ?_
      walk_at "go"
      refine ⟨C, r, G2, t, s1, n, v, rfl, hP2, ⟨h0, by omega⟩, hf, fun H3 hO3 hP3 => ?_⟩
      have om : G2.mut = G.mut := hx.mut
      have q6 := q5 H3 G2 hx (o2'.trans (by rw [om] at hO3; exact hO3.sub fun b hb => PG.mut_all hb)) hP3
      exact q6
theorem x_qWrite {T : Txt K mg} {kd : Kd} {C : Addr} {H : Hp} {Q : VK} {E : XK} {σ : L2.St} {r : Addr} {G : PG} {t : Ts} {s : St} {ta : TA} (hP : SP P w base T kd C H r G t s) (h : ta σ H fun vs H2 => spWriteQ T P w base (.ref r :: vs) H2 Q E) : mtK P w K mg base (L2.CX P w) 24 "write" E σ ta Q (.ref r) H :=
  x_mtK hP.obj ⟨⟨_, _, _, hP.v.cl, hP.v.write, ok_Plain_write T, T.bd_Plain_write⟩⟩ (hP.lk (by rfl)) h
/-- a sheet that is one, a value that is one -/
theorem x_writeQ {T : Txt K mg} {kd : Kd} {C : Addr} {H : Hp} {Q : VK} {E : XK} {r : Addr} {G : PG} {t : Ts} {s : St} (f : Nat) {n v : Int} (hP : SP P w base T kd C H r G t s) (hts : t.s ≤ 64) (hn : 0 ≤ n ∧ n < t.s) (hv : 0 ≤ v ∧ v < 10 ^ 30) (hf : Fits (writeQ kd t f s n v).2)
    (q : ∀ H' G', Ext H G G' → Off (G.all kd) H H' → SP P w base T kd C H' r G' t (writeQ kd t f s n v).2 → Out T (writeQ kd t f s n v).1 (fun pg H' => Q (.int pg) H') E H') : spWriteQ T P w base [.ref r, .int n, .int v] H Q E := by
  refine ⟨kd, C, r, G, t, s, f, _, _, some n, some v, rfl, hP, hts, .int n, .int v, fun z => ?_, fun _ z => ?_, fun n' v' e1 e2 _ _ => ?_⟩
  · have : inB (some n) 0 (t.s - 1) = true := decide_eq_true ⟨hn.1, by omega⟩
    rw [this] at z; cases z
  · have : inB (some v) 0 (10 ^ 30 - 1) = true := decide_eq_true ⟨hv.1, by omega⟩
    rw [this] at z; cases z
  · cases e1
    cases e2
    exact ⟨hf, q⟩
/-! ### a chip, a store, made -/
def Pc.new (b p m : Int) (l : List V) : Pc := { b, p, m, lasts := l, ct := List.replicate (b * p).toNat none, tried := List.replicate b.toNat 0, clr := List.replicate b.toNat 0, broken := List.replicate b.toNat false, left := none, log := [] }
theorem chipP_new {C : Addr} {H : Hp} {r : Addr} {F : CF} {b p m : Int} {l : List V} (h : ChipAt C H r F (Cs.new b p m l)) : ChipP C H r F (Pc.new b p m l) := by
  refine ⟨List.replicate (b * p).toNat .non, h, by show (List.replicate _ _).length = (List.replicate _ _).length; rw [List.length_replicate, List.length_replicate], fun i _ => .inl ⟨?_, ?_⟩⟩
  · show (List.replicate _ _).getD i none = none
    rw [List.getD_eq_getElem?_getD, List.getElem?_replicate]
    split <;> rfl
  · rw [List.getD_eq_getElem?_getD, List.getElem?_replicate]
    split <;> rfl
theorem wf_new {b p m : Int} {l : List V} (hb : 2 ≤ b ∧ b ≤ 16) (hp : 1 ≤ p ∧ p ≤ 16) : Wf (Pc.new b p m l) (Bk.new b p) := Wf.new (m := m) (l := l) hb hp rfl rfl rfl fun n => by
  show 0 ≤ (List.replicate b.toNat (0 : Int)).getD n 0 ∧ (List.replicate b.toNat (0 : Int)).getD n 0 ≤ (0 : Int)
  rw [List.getD_eq_getElem?_getD, List.getElem?_replicate]
  split <;> exact ⟨Int.le_refl _, Int.le_refl _⟩
/-- fields but the rule and the papers are there -/
def spPInitQ (T : Txt K mg) : Sp := fun vs H Q _ => ∃ (kd : Kd) (C r dx rc : Addr) (F : CF) (rt dt : Addr) (t : Ts) (q : Pc), vs = [.ref r, .ref rc, .ref rt] ∧ VS T kd C ∧ H r = some (.ins C dx []) ∧ ChipP T.C_Chip H rc F q ∧ H rt = some (.ins T.C_Terms dt (termF t)) ∧ t.b = q.b ∧ t.p = q.p ∧ r ∉ F.all rc ∧ r ≠ rt ∧ rt ∉ F.all rc ∧
  ∀ rb fb H', Off [r] H H' → (∀ a ∈ BF.all fb rb, H a = none) → H' r = some (.ins C dx (([("chip", .ref rc), ("terms", .ref rt), ("book", .ref rb)] : List (Str × V)))) → ChipP T.C_Chip H' rc F q → H' rt = some (.ins T.C_Terms dt (termF t)) → BookAt T.C_Book H' rb fb (Bk.new q.b q.p) → Q .non H'
theorem ok_Plain_init (T : Txt K mg) : FO P w K mg base 4 T.a_Plain_init T.fd_Plain_init ["self", "chip", "terms"] (spPInitQ T) := by
  have sc := sc_Plain_init
  refine T.F_Plain_init.okX sc (fun vs H Q E h => ?_) (fun cdv A outer s H vs Q E hr h => ?_)
  · obtain ⟨_, _, _, _, _, _, _, _, _, _, rfl, _⟩ := h
    rfl
  obtain ⟨kd, C, r, dx, rc, F, rt, dt, t, q0, rfl, hv, hR, hC, hT, e1, e2, d1, d2, d3, q⟩ := h
  refine ⟨_, (pss_cons (ps_if (PW.pt (pw_or (pt_cmpR (op_uNe hr.units) (pe_fld (pv 1) rfl) (pe_fld (pv 2) rfl) (nomark _)) (pw_or1 (pt_cmpR (op_uNe hr.units) (pe_fld (pv 1) rfl) (pe_fld (pv 2) rfl) (nomark _))))) (pss_one (ps_raiseK rfl (takes_of rfl rfl rfl rfl) (pmk_ownK T.xc_NoTerms T.g_NoTerms rfl))) pss_nil)
      (pss_cons (ps_fld (pv 0) (pv 1) rfl)
      (pss_cons (ps_fld (pv 0) (pv 2) rfl)
      (pss_one (ps_fld (pv 0) (pe_mkS T.mk_Book (ok_Book_init T) (hr.mono (by decide)) (by rfl) T.g_Book T.bd_Book_init .nil (passAt (takes_of rfl rfl rfl rfl)) (pa_cons (pe_fld (pv 1) rfl) (pa_cons (pe_fld (pv 1) rfl) pa_nil))) rfl))))), ?_⟩
  have vcl := hv.cl
  have vn1 := hv.n1
  have vn2 := hv.n2
  have vn3 := hv.n3
  obtain ⟨z1, z2, _, _⟩ := hC.sz
  obtain ⟨st, hC0, hst⟩ := hC
  have hoc := hC0.obj
  have hot := hT
  unfold chipF at hoc
  unfold termF at hot
  rw [show (q0.toC st).b = q0.b from rfl, show (q0.toC st).p = q0.p from rfl] at hoc
  walk_at "begin"
  walk_at "if"
  refine x_iteD (fun _ => ?_) (fun h => absurd e1.symm h)
  walk_at "go"
  refine x_iteD (fun _ => ?_) (fun h => absurd e2.symm h)
  have d4 : rc ≠ r := fun z => d1 (by rw [← z]; exact List.mem_cons_self)
  have d5 : rt ≠ r := d2.symm
  walk_at "go"
  rename_i H1 hO1 hI1 H2 hO2 hI2 x dxb H3 hx hdx hne hs3 hn3 hdd
  have o2 : Off [r] H H2 := hO1.trans hO2
  refine ⟨x, dxb, q0.b, q0.p, rfl, hn3, z1, z2, fun fb H4 hO4 hF4 hB4 => ⟨rfl, ?_⟩⟩
  have rx : r ≠ x := ne_of_none hI2 hx
  have hI4 : H4 r = some (.ins C dx ([("chip", .ref rc), ("terms", .ref rt)] : List (Str × V))) := hO4.at (hs3 _ _ hI2) (nin_of rx)
  walk_at "go"
  rename_i H5 hO5 hI5
  have s24 : Same H2 H4 := Off.same1 hs3 hO4 hx
  have o5 : Off [r] H H5 := (o2.trans (Off.of s24)).trans hO5
  have hx0 : H x = none := off_none o2 hx rx.symm
  have nB : ∀ a ∈ BF.all fb x, H2 a = none := fun a ha => by
    by_cases e : a = x
    · rw [e]; exact hx
    · exact same_none hs3 (hF4 a ha e)
  have nr : ∀ a ∈ BF.all fb x, a ≠ r := fun a ha z => by
    have := nB a ha
    rw [z, hI2] at this
    cases this
  have nH : ∀ a ∈ BF.all fb x, H a = none := fun a ha => off_none o2 (nB a ha) (nr a ha)
  have tS : TupS H H5 := o5.tups hR
  have hC5 : ChipP T.C_Chip H5 rc F q0 := ⟨st, hC0.off o5 (fun a ha => nin_of (fun z => d1 (z ▸ ha))) tS, hst.mono tS⟩
  have hB5 : BookAt T.C_Book H5 x fb (Bk.new q0.b q0.p) := hB4.off hO5 (fun a ha => nin_of (nr a ha))
  exact q x fb H5 o5 nH hI5 hC5 (o5.at hT (nin_of d5)) hB5
theorem ChipP.fresh {C : Addr} {H : Hp} {r : Addr} {F : CF} {q : Pc} (h : ChipP C H r F q) {a : Addr} (ha : H a = none) : a ∉ F.all r := fun m => by
  obtain ⟨o, e, _⟩ := h.there a m
  rw [ha] at e
  cases e
/-- a new store: its addresses -/
def spNewQ (T : Txt K mg) (kd : Kd) (P : Program) (w : World) (base : Heap) (C : Addr) (H : Hp) (r dx rc : Addr) (F : CF) (rt dt : Addr) (t : Ts) (q : Pc) (R : Rl) (ru : Addr) (rf : List Addr) (Qn : Hp → Prop) : Prop :=
  ∀ G H', Off [r] H H' → G.dx = dx → G.rc = rc → G.fc = F → G.rt = rt → G.dt = dt → G.ru = ru → G.rf = rf → G.fp = [] → (∀ a ∈ G.fb.all G.rb, H a = none) → (kd ≠ .plain → H G.pa = none) → SP P w base T kd C H' r G t ⟨q, Bk.new q.b q.p, [], R⟩ → Qn H'
def spSInitQ (T : Txt K mg) (P : Program) (w : World) (base : Heap) : Sp := fun vs H Q _ => ∃ (kd : Kd) (C r dx rc : Addr) (F : CF) (rt dt : Addr) (t : Ts) (q : Pc) (R : Rl) (ru : Addr) (rf : List Addr), vs = [.ref r, .ref rc, .ref rt, .ref ru] ∧ kd ≠ .plain ∧ VS T kd C ∧ H r = some (.ins C dx []) ∧ ChipP T.C_Chip H rc F q ∧ H rt = some (.ins T.C_Terms dt (termF t)) ∧ t.b = q.b ∧ t.p = q.p ∧ r ∉ F.all rc ∧ r ≠ rt ∧ rt ∉ F.all rc ∧ Wf q (Bk.new q.b q.p) ∧ RlAt P w K mg base H rf ru R ∧ (∀ a ∈ rf, a ∉ F.all rc ∧ a ≠ r ∧ a ≠ rt) ∧
  spNewQ T kd P w base C H r dx rc F rt dt t q R ru rf (Q .non)
theorem ok_Store_init (T : Txt K mg) : FO P w K mg base 5 T.a_Store_init T.fd_Store_init ["self", "chip", "terms", "rule"] (spSInitQ T P w base) := by
  have sc := sc_Store_init
  refine T.F_Store_init.okX sc (fun vs H Q E h => ?_) (fun cdv A outer s H vs Q E hr h => ?_)
  · obtain ⟨_, _, _, _, _, _, _, _, _, _, _, _, _, rfl, _⟩ := h
    rfl
  obtain ⟨kd, C, r, dx, rc, F, rt, dt, t, q0, R, ru, rf, rfl, hk, hv, hR, hC, hT, e1, e2, d1, d2, d3, hw, hRl, hrf, q⟩ := h
  refine ⟨_, (pss_cons (ps_expr (pe_cinit T.ci_Plain (ok_Plain_init T) (hr.mono (by decide)) (by rfl) T.g_Plain T.k_Plain_init T.bd_Plain_init (passAt (takes_of rfl rfl rfl rfl)) (pa_cons (pv 0) (pa_cons (pv 1) (pa_cons (pv 2) pa_nil)))))
      (pss_cons (ps_fld (pv 0) (pv 3) rfl)
      (pss_one (ps_fld (pv 0) (pe_lst pa_nil) rfl)))), ?_⟩
  have vcl := hv.cl
  have vn1 := hv.n1
  have vn2 := hv.n2
  have vn3 := hv.n3
  have vn4 := hv.n4 hk
  have vn5 := hv.n5 hk
  walk_at "begin"
  walk_at "go"
  refine ⟨kd, C, r, dx, rc, F, rt, dt, t, q0, rfl, hv, hR, hC, hT, e1, e2, d1, d2, d3, fun rb fb H1 hO1 hF1 hI1 hC1 hT1 hB1 => ?_⟩
  have hO1' := hO1
  clear hO1
  walk_at "go"
  rename_i H2 hO2 hI2 pa H3 hpa hs3 hn3 H4 hO4 hI4
  have o14 : Off [r] H1 H4 := (hO2.trans (Off.of hs3)).trans hO4
  have o04 : Off [r] H H4 := hO1'.trans o14
  have npr : pa ≠ r := (ne_of_none hI2 hpa).symm
  have npa1 : H1 pa = none := off_none hO2 hpa npr
  have npa0 : H pa = none := off_none hO1' npa1 npr
  have tt : TupS H1 H4 := o14.tups hI1
  have nrC : ∀ a ∈ F.all rc, a ∉ [r] := fun a ha => nin_of (fun z => d1 (z ▸ ha))
  have nrB : ∀ a ∈ fb.all rb, a ∉ [r] := fun a ha => nin_of (fun z => by have := hF1 a ha; rw [z, hR] at this; cases this)
  have hC4 := hC1.off o14 nrC tt
  have hB4 := hB1.off o14 nrB
  have hT4 := o14.at hT1 (nin_of d2.symm)
  have hR4 : RlAt P w K mg base H4 rf ru R := hRl.off o04 (fun a ha => nin_of (hrf a ha).2.1) (o04.tups hR)
  have tr : ∀ a ∈ rf, ∃ o, H a = some o := fun a ha => by
    obtain ⟨o, e, _⟩ := hRl.there a ha
    exact ⟨o, e⟩
  have hpa4 : H4 pa = some (.lst []) := hO4.at hn3 (nin_of npr)
  refine q ⟨dx, rc, F, rt, dt, rb, fb, ru, rf, pa, []⟩ H4 o04 rfl rfl rfl rfl rfl rfl rfl rfl hF1 (fun _ => npa0) ⟨hv, ?_, hC4, hT4, hB4, fun _ => hR4, fun _ => ⟨[], hpa4, rfl, fun i v u h => by simp at h⟩, hw, ⟨e1, e2⟩, ?_, ?_, fun a ha => hC.fresh (hF1 a ha), fun _ => ⟨?_, fun a ha => ⟨?_, ?_⟩⟩, fun _ a ha => (by cases ha), fun _ a ha => (by cases ha)⟩
  · unfold objF
    rw [restF_store hk]
    exact hI4
  · rw [PG.all_store hk]
    intro z
    rcases List.mem_append.mp z with z | z
    · rcases List.mem_append.mp z with z | z
      · exact d1 z
      · have := hF1 r z
        rw [hR] at this
        cases this
    · rcases List.mem_cons.mp z with z | z
      · exact npr z.symm
      · exact (hrf r z).2.1 rfl
  · rw [PG.all_store hk]
    intro z
    rcases List.mem_append.mp z with z | z
    · rcases List.mem_append.mp z with z | z
      · exact d3 z
      · have := hF1 rt z
        rw [hT] at this
        cases this
    · rcases List.mem_cons.mp z with z | z
      · have z : rt = pa := z
        rw [← z, hT] at npa0
        cases npa0
      · exact (hrf rt z).2.2 rfl
  · intro z
    rcases List.mem_append.mp z with z | z
    · exact hC.fresh npa0 z
    · exact hB1.fresh npa1 z
  · intro z
    rcases List.mem_append.mp z with z | z
    · exact (hrf a ha).1 z
    · have := hF1 a z
      obtain ⟨o, e⟩ := tr a ha
      rw [e] at this
      cases this
  · intro z
    have z : a = pa := z
    obtain ⟨o, e⟩ := tr a ha
    rw [z, npa0] at e
    cases e
/-- another rule -/
def spTakeQ (T : Txt K mg) (P : Program) (w : World) (base : Heap) : Sp := fun vs H Q _ => ∃ (kd : Kd) (C r : Addr) (G : PG) (t : Ts) (s : St) (R : Rl) (ru : Addr) (rf : List Addr), vs = [.ref r, .ref ru] ∧ kd ≠ .plain ∧ SP P w base T kd C H r G t s ∧ RlAt P w K mg base H rf ru R ∧ (∀ a ∈ rf, a ∉ G.mut ∧ a ≠ G.pa ∧ a ≠ r ∧ a ≠ G.rt ∧ a ∉ G.fp) ∧
  ∀ H', Off [r] H H' → SP P w base T kd C H' r { G with ru := ru, rf := rf } t { s with ru := R } → Q .non H'
theorem ok_Store_take (T : Txt K mg) : FO P w K mg base 1 T.a_Store_take T.fd_Store_take ["self", "rule"] (spTakeQ T P w base) := by
  have sc := sc_Store_take
  refine T.F_Store_take.okX sc (fun vs H Q E h => ?_) (fun cdv A outer s H vs Q E hr h => ?_)
  · obtain ⟨_, _, _, _, _, _, _, _, _, rfl, _⟩ := h
    rfl
  obtain ⟨kd, C, r, G, t, s, R, ru, rf, rfl, hk, hP, hR, hrf, q⟩ := h
  refine ⟨_, (pss_one (ps_fld (pv 0) (pv 1) rfl)), ?_⟩
  have vcl := hP.v.cl
  have vn4 := hP.v.n4 hk
  have ho := ne_plain hP hk
  unfold coreF at ho
  walk_at "begin"
  walk_at "go"
  refine x_sfO (fs' := [("chip", .ref G.rc), ("terms", .ref G.rt), ("book", .ref G.rb), ("rule", .ref ru), ("papers", .ref G.pa)]) ho rfl (fun H1 hO1 hI1 => ?_) vcl vn4 (Nat.le_of_ble_eq_true rfl)
  have tt : TupS H H1 := hO1.tups ho
  have ea : ∀ a, a ∈ PG.all kd { G with ru := ru, rf := rf } → a ∈ G.mut ∨ a = G.pa ∨ a ∈ rf := fun a ha => by
    rw [PG.all_store hk] at ha
    rcases List.mem_append.mp ha with z | z
    · exact .inl z
    · rcases List.mem_cons.mp z with z | z
      · exact .inr (.inl z)
      · exact .inr (.inr z)
  have nr : ∀ a, a ∈ G.mut ∨ a = G.pa → a ≠ r := fun a ha z => hP.nr (by
    rw [PG.all_store hk, ← z]
    rcases ha with ha | ha
    · exact List.mem_append_left _ ha
    · rw [ha]; exact List.mem_append_right _ List.mem_cons_self)
  have nm : ∀ a ∈ G.mut, a ∉ [r] := fun a ha => nin_of (nr a (.inl ha))
  have hpt : G.rt ≠ r := fun z => by
    have h1 := hP.terms
    rw [z, hP.obj] at h1
    have h2 : objF kd G = termF t := by
      injection h1 with h1
      injection h1
    unfold objF coreF termF at h2
    cases h2
  refine q H1 hO1 ⟨hP.v, ?_, hP.chip.off hO1 (fun a ha => nm a (List.mem_append_left _ ha)) tt, hO1.at hP.terms (nin_of hpt), hP.book.off hO1 (fun a ha => nm a (List.mem_append_right _ ha)), fun _ => hR.off hO1 (fun a ha => nin_of (hrf a ha).2.2.1) tt, fun hk => (hP.pap hk).at (fun _ e => hO1.at e (nin_of (nr _ (.inr rfl)))) (fun a ha _ e => hO1.at e (nin_of (hP.nf hk a ha).2.1)) tt, hP.wf, hP.tb, fun z => ?_, fun z => ?_, hP.cb, fun hk => ⟨(hP.np hk).1, fun a ha => ⟨(hrf a ha).1, (hrf a ha).2.1⟩⟩, fun hk a ha => ⟨fun z => ?_, (hP.nf hk a ha).2⟩, fun hk a ha => (hP.fa hk a ha).imp fun _ e => hO1.at e (nin_of (hP.nf hk a ha).2.1)⟩
  · unfold objF
    rw [restF_store hk]
    exact hI1
  · rcases ea r z with z | z | z
    · exact nr r (.inl z) rfl
    · exact nr r (.inr z) rfl
    · exact (hrf r z).2.2.1 rfl
  · rcases ea G.rt z with z | z | z
    · exact hP.nt (PG.mut_all z)
    · exact hP.nt (by rw [PG.all_store hk]; exact List.mem_append_right _ (List.mem_cons.mpr (.inl z)))
    · exact (hrf G.rt z).2.2.2.1 rfl
  · rcases ea a z with z | z | z
    · exact (hP.nf hk a ha).1 (PG.mut_all z)
    · exact (hP.nf hk a ha).1 (by rw [PG.all_store hk]; exact List.mem_append_right _ (List.mem_cons.mpr (.inl z)))
    · exact (hrf a z).2.2.2.2 ha
/-! ### clear pages of the good blocks, counted -/
theorem goodQ_nodup {q : Pc} : (goodQ q).Nodup := List.nodup_range.filter _
theorem sum_same {f g : Nat → Int} : ∀ {l : List Nat}, (∀ m ∈ l, f m = g m) → (l.map f).sum = (l.map g).sum
  | [], _ => rfl
  | a :: l, h => by
    rw [List.map_cons, List.map_cons, List.sum_cons, List.sum_cons, h a List.mem_cons_self, sum_same fun m hm => h m (List.mem_cons_of_mem _ hm)]
theorem sum_one {f g : Nat → Int} {n : Nat} : ∀ {l : List Nat}, l.Nodup → n ∈ l → (∀ m ∈ l, m ≠ n → f m = g m) → (l.map f).sum = (l.map g).sum + f n - g n
  | [], _, h, _ => by cases h
  | a :: l, hn, h, e => by
    rw [List.nodup_cons] at hn
    rw [List.map_cons, List.map_cons, List.sum_cons, List.sum_cons]
    by_cases ha : a = n
    · subst ha
      rw [sum_same (f := f) (g := g) fun m hm => e m (List.mem_cons_of_mem _ hm) (fun z => hn.1 (z ▸ hm))]
      omega
    · have h2 : n ∈ l := by
        rcases List.mem_cons.mp h with z | z
        · exact absurd z.symm ha
        · exact z
      rw [sum_one hn.2 h2 fun m hm => e m (List.mem_cons_of_mem _ hm), e a List.mem_cons_self ha]
      omega
def clrP (q : Pc) (k : Bk) : Int := ((goodQ q).map fun n => q.p - k.fil.getD n 0).sum
def isPt (q : Pc) (k : Bk) (n : Nat) : Prop := 0 < k.fil.getD n 0 ∧ k.fil.getD n 0 < q.p
def OneP (q : Pc) (k : Bk) : Prop := ∀ n ∈ goodQ q, ∀ m ∈ goodQ q, isPt q k n → isPt q k m → n = m
def sp0 (q : Pc) (k : Bk) : Int := match partQ q k with
  | none => 0
  | some n => q.p - k.fil.getD n 0
def ptB (q : Pc) (k : Bk) (n : Nat) : Bool := decide (0 < k.fil.getD n 0) && decide (k.fil.getD n 0 < q.p)
theorem ptB_is {q : Pc} {k : Bk} {n : Nat} : ptB q k n = true ↔ isPt q k n := by
  unfold ptB isPt
  rw [Bool.and_eq_true, decide_eq_true_eq, decide_eq_true_eq]
theorem partQ_eq {q : Pc} {k : Bk} : partQ q k = (goodQ q).find? (ptB q k) := rfl
theorem partQ_none {q : Pc} {k : Bk} : partQ q k = none ↔ ∀ n ∈ goodQ q, ¬ isPt q k n := by
  rw [partQ_eq, List.find?_eq_none]
  exact ⟨fun h n hn z => h n hn (ptB_is.mpr z), fun h n hn z => h n hn (ptB_is.mp z)⟩
theorem partQ_some {q : Pc} {k : Bk} {n : Nat} (h : partQ q k = some n) : n ∈ goodQ q ∧ isPt q k n := by
  rw [partQ_eq] at h
  exact ⟨List.mem_of_find?_eq_some h, ptB_is.mp (List.find?_some h)⟩
theorem split_l {q : Pc} {k : Bk} (hf : ∀ n : Nat, 0 ≤ k.fil.getD n 0 ∧ k.fil.getD n 0 ≤ q.p) (hp : 1 ≤ q.p) : ∀ (l : List Nat), l.Nodup → (∀ n ∈ l, ∀ m ∈ l, isPt q k n → isPt q k m → n = m) →
    (l.map fun n => q.p - k.fil.getD n 0).sum = ((l.filter fun n => decide (k.fil.getD n 0 = 0)).length : Int) * q.p + (match l.find? (ptB q k) with
      | none => 0
      | some n => q.p - k.fil.getD n 0)
  | [], _, _ => by simp
  | a :: l, hn, ho => by
    rw [List.nodup_cons] at hn
    have ih := split_l hf hp l hn.2 fun n h1 m h2 => ho n (List.mem_cons_of_mem _ h1) m (List.mem_cons_of_mem _ h2)
    rw [List.map_cons, List.sum_cons, ih]
    have h1 := hf a
    by_cases h0 : k.fil.getD a 0 = 0
    · have e1 : (a :: l).filter (fun n => decide (k.fil.getD n 0 = 0)) = a :: l.filter (fun n => decide (k.fil.getD n 0 = 0)) := List.filter_cons_of_pos (by exact decide_eq_true h0)
      rw [e1, List.length_cons, List.find?_cons_of_neg (fun z => by have := (ptB_is.mp z).1; omega), h0]
      push_cast
      rw [Int.add_mul, Int.one_mul]
      omega
    · have e1 : (a :: l).filter (fun n => decide (k.fil.getD n 0 = 0)) = l.filter (fun n => decide (k.fil.getD n 0 = 0)) := List.filter_cons_of_neg (by simpa using h0)
      rw [e1]
      by_cases hp : isPt q k a
      · have e : l.find? (ptB q k) = none := List.find?_eq_none.mpr fun n hn2 z => hn.1 (ho a List.mem_cons_self n (List.mem_cons_of_mem _ hn2) hp (ptB_is.mp z) ▸ hn2)
        rw [e, List.find?_cons_of_pos (ptB_is.mpr hp)]
        show q.p - k.fil.getD a 0 + (((l.filter fun n => decide (k.fil.getD n 0 = 0)).length : Int) * q.p + 0) = ((l.filter fun n => decide (k.fil.getD n 0 = 0)).length : Int) * q.p + (q.p - k.fil.getD a 0)
        omega
      · rw [List.find?_cons_of_neg (fun z => hp (ptB_is.mp z))]
        have : k.fil.getD a 0 = q.p := by
          unfold isPt at hp
          omega
        omega
theorem clr_split {q : Pc} {k : Bk} (hw : Wf q k) (ho : OneP q k) : clrP q k = ((freeQ q k).length : Int) * q.p + sp0 q k := by
  have hp := hw.bk.p
  have e := hw.kp
  have := split_l (q := q) (k := k) (fun n => by have := hw.fil n; rw [e] at this; exact this) (by omega) (goodQ q) goodQ_nodup ho
  unfold clrP
  rw [this]
  unfold freeQ sp0
  rw [List.length_map, partQ_eq]
theorem sp0_le {q : Pc} {k : Bk} (hp : 1 ≤ q.p) : 0 ≤ sp0 q k ∧ sp0 q k < q.p ∧ (partQ q k = none → sp0 q k = 0) ∧ (partQ q k ≠ none → 0 < sp0 q k) := by
  unfold sp0
  cases h : partQ q k with
  | none => exact ⟨Int.le_refl _, by dsimp only; omega, fun _ => rfl, fun z => absurd rfl z⟩
  | some n =>
    have := (partQ_some h).2
    unfold isPt at this
    dsimp only
    exact ⟨by omega, by omega, fun z => (by cases z), fun _ => by omega⟩
/-- ready: more clear pages than the reserve's -/
theorem ready_clr {kd : Kd} {t : Ts} {q : Pc} {k : Bk} (hw : Wf q k) (ho : OneP q k) : readyQ kd t q k = decide (resvQ kd t q * q.p < clrP q k) := by
  have hp : 1 ≤ q.p := by have := hw.bk.p; have := hw.kp; omega
  obtain ⟨a1, a2, a3, a4⟩ := sp0_le (k := k) hp
  rw [clr_split hw ho]
  unfold readyQ
  generalize resvQ kd t q = r
  generalize ((freeQ q k).length : Int) = f
  cases h : partQ q k with
  | none =>
    dsimp only
    rw [a3 h, decide_eq_decide]
    constructor
    · intro z
      have := Int.mul_lt_mul_of_pos_right z (show 0 < q.p by omega)
      omega
    · intro z
      rw [Int.add_zero] at z
      exact Int.lt_of_mul_lt_mul_right z (by omega)
  | some n =>
    dsimp only
    have a5 := a4 (by rw [h]; exact fun z => by cases z)
    rw [decide_eq_decide]
    constructor
    · intro z
      have := Int.mul_le_mul_of_nonneg_right z (show 0 ≤ q.p by omega)
      omega
    · intro z
      apply Int.le_of_lt_add_one
      refine Int.lt_of_mul_lt_mul_right (a := q.p) ?_ (by omega)
      rw [Int.add_mul, Int.one_mul]
      omega
theorem space_clr {kd : Kd} {t : Ts} {q : Pc} {k : Bk} (hw : Wf q k) (ho : OneP q k) (tp : t.p = q.p) (h : (resvQ kd t q - 1) * q.p ≤ clrP q k) : (resvQ kd t q * q.p ≤ clrP q k → spaceQ kd t q k = q.p) ∧ (clrP q k < resvQ kd t q * q.p → spaceQ kd t q k = clrP q k - (resvQ kd t q - 1) * q.p) := by
  have hp : 1 ≤ q.p := by have := hw.bk.p; have := hw.kp; omega
  obtain ⟨a1, a2, a3, a4⟩ := sp0_le (k := k) hp
  rw [clr_split hw ho] at h ⊢
  have e : spaceQ kd t q k = if resvQ kd t q ≤ ((freeQ q k).length : Int) then q.p else sp0 q k := by
    unfold spaceQ sp0
    rw [tp]
    try (split <;> first | rfl | (cases partQ q k <;> rfl))
  rw [e]
  generalize resvQ kd t q = r at *
  generalize ((freeQ q k).length : Int) = f at *
  rw [Int.sub_mul, Int.one_mul] at h ⊢
  constructor
  · intro z
    rw [if_pos]
    apply Int.le_of_lt_add_one
    refine Int.lt_of_mul_lt_mul_right (a := q.p) ?_ (by omega)
    rw [Int.add_mul, Int.one_mul]
    omega
  · intro z
    have h1 : f < r := Int.lt_of_mul_lt_mul_right (a := q.p) (by omega) (by omega)
    rw [if_neg (by omega)]
    have h2 : r - 1 ≤ f := by
      apply Int.le_of_lt_add_one
      refine Int.lt_of_mul_lt_mul_right (a := q.p) ?_ (by omega)
      rw [Int.sub_mul, Int.add_mul, Int.one_mul]
      omega
    have h3 : f = r - 1 := by omega
    rw [h3, Int.sub_mul, Int.one_mul]
    omega
/-- a clear page is found where there is one -/
theorem spot_ex {q : Pc} {k : Bk} (hw : Wf q k) (ho : OneP q k) (h : 0 < clrP q k) : ∃ pg n, spotQ q k = some pg ∧ Spot q k pg n := by
  have hp : 1 ≤ q.p := by have := hw.bk.p; have := hw.kp; omega
  obtain ⟨a1, a2, a3, a4⟩ := sp0_le (k := k) hp
  have : spotQ q k ≠ none := by
    unfold spotQ nextQ
    cases hpt : partQ q k with
    | some n => exact fun z => by cases z
    | none =>
      rw [clr_split hw ho, a3 hpt] at h
      have : freeQ q k ≠ [] := fun z => by rw [z] at h; simp at h
      cases hs : sortP (freeQ q k) with
      | nil =>
        have := (sortP_perm (freeQ q k)).length_eq
        rw [hs] at this
        have : freeQ q k = [] := List.length_eq_zero_iff.mp this.symm
        contradiction
      | cons e es =>
        show Option.map _ (Option.map _ (some e)) ≠ none
        exact fun z => by cases z
  cases hs : spotQ q k with
  | none => exact absurd hs this
  | some pg =>
    obtain ⟨n, sp⟩ := spot_of hp hs
    exact ⟨pg, n, rfl, sp⟩
/-- what the next page's block is like: the part, or a free one where there is no part -/
theorem Spot.kind {q : Pc} {k : Bk} {pg : Int} {n : Nat} (s : Spot q k pg n) : n ∈ goodQ q ∧ (isPt q k n ∨ (k.fil.getD n 0 = 0 ∧ partQ q k = none)) := by
  have hg : n ∈ goodQ q := List.mem_filter.mpr ⟨List.mem_range.mpr s.lt, by rw [s.good]; rfl⟩
  refine ⟨hg, ?_⟩
  have h := s.next
  unfold nextQ at h
  cases hp : partQ q k with
  | some m =>
    rw [hp] at h
    injection h with h
    subst h
    exact .inl (partQ_some hp).2
  | none =>
    have h0 := s.f0
    by_cases z : k.fil.getD n 0 = 0
    · exact .inr ⟨z, rfl⟩
    · exact absurd ⟨by omega, s.f1⟩ (partQ_none.mp hp n hg)
/-- one block's pages written change -/
theorem clr_set {q q' : Pc} {k k' : Bk} {n : Nat} {x : Int} (eg : goodQ q' = goodQ q) (ep : q'.p = q.p) (hn : n ∈ goodQ q) (hl : n < k.fil.length) (e : k'.fil = k.fil.set n x) : clrP q' k' = clrP q k + k.fil.getD n 0 - x := by
  unfold clrP
  rw [eg, ep, e, sum_one (n := n) (g := fun n => q.p - k.fil.getD n 0) goodQ_nodup hn fun m _ hm => ?_]
  · rw [getD_set hl, if_pos rfl]
    omega
  · rw [getD_set hl, if_neg hm]
theorem one_set {q q' : Pc} {k k' : Bk} {n : Nat} {x : Int} (ho : OneP q k) (eg : goodQ q' = goodQ q) (ep : q'.p = q.p) (hl : n < k.fil.length) (e : k'.fil = k.fil.set n x) (h : ¬ (0 < x ∧ x < q.p) ∨ ∀ m ∈ goodQ q, isPt q k m → m = n) : OneP q' k' := by
  intro a ha b hb pa pb
  rw [eg] at ha hb
  unfold isPt at pa pb
  rw [ep, e, getD_set hl] at pa pb
  by_cases ea : a = n
  · by_cases eb : b = n
    · rw [ea, eb]
    · rw [if_pos ea] at pa
      rw [if_neg eb] at pb
      rcases h with h | h
      · exact absurd pa h
      · exact absurd (h b hb pb) eb
  · by_cases eb : b = n
    · rw [if_neg ea] at pa
      rw [if_pos eb] at pb
      rcases h with h | h
      · exact absurd pb h
      · exact absurd (h a ha pa) ea
    · rw [if_neg ea] at pa
      rw [if_neg eb] at pb
      exact ho a ha b hb pa pb
/-- a page of the next block is written -/
theorem clr_note {q q' : Pc} {k : Bk} {pg nm : Int} {n : Nat} (hw : Wf q k) (ho : OneP q k) (s : Spot q k pg n) (eg : goodQ q' = goodQ q) (ep : q'.p = q.p) : clrP q' (k.note pg nm) = clrP q k - 1 ∧ OneP q' (k.note pg nm) := by
  obtain ⟨hg, hk⟩ := s.kind
  have hl := hw.bk.fil
  have hkb := hw.kb
  have hlt := s.lt
  have e : (k.note pg nm).fil = k.fil.set n (k.fil.getD n 0 + 1) := by
    rw [note_fil, hw.kp, s.blk, Int.toNat_natCast]
  have hl2 : n < k.fil.length := by omega
  refine ⟨by rw [clr_set eg ep hg hl2 e]; omega, one_set ho eg ep hl2 e (.inr fun m hm pm => ?_)⟩
  rcases hk with hk | ⟨_, hk⟩
  · exact ho m hm n hg pm hk
  · exact absurd pm (partQ_none.mp hk m hm)
/-- a full block is cleared -/
theorem clr_empt {q q' : Pc} {k : Bk} {n : Nat} (hw : Wf q k) (ho : OneP q k) (hg : n ∈ goodQ q) (hf : k.fil.getD n 0 = q.p) (eg : goodQ q' = goodQ q) (ep : q'.p = q.p) : clrP q' (k.empt n) = clrP q k + q.p ∧ OneP q' (k.empt n) := by
  have hl := hw.bk.fil
  have hkb := hw.kb
  have hlt := List.mem_range.mp (List.mem_filter.mp hg).1
  have e : (k.empt n).fil = k.fil.set n 0 := by
    show k.fil.set (n : Int).toNat 0 = _
    rw [Int.toNat_natCast]
  have hl2 : n < k.fil.length := by omega
  exact ⟨by rw [clr_set eg ep hg hl2 e]; omega, one_set ho eg ep hl2 e (.inl (by omega))⟩
/-! live pages, counted -/
theorem sum_filt (p : Int) : ∀ (L : List Nat) (ps : List (Int × Int)), L.Nodup → (L.map fun n : Nat => ((ps.filter fun e => decide (e.2 / p = (n : Int))).length : Int)).sum ≤ (ps.length : Int)
  | [], ps, _ => by simp
  | a :: L, ps, h => by
    rw [List.nodup_cons] at h
    have ih := sum_filt p L (ps.filter fun e => !decide (e.2 / p = (a : Int))) h.2
    have e1 : (L.map fun n : Nat => ((ps.filter fun e => decide (e.2 / p = (n : Int))).length : Int)).sum = (L.map fun n : Nat => (((ps.filter fun e => !decide (e.2 / p = (a : Int))).filter fun e => decide (e.2 / p = (n : Int))).length : Int)).sum := by
      refine sum_same fun m hm => ?_
      rw [List.filter_filter]
      congr 2
      refine List.filter_congr fun e _ => ?_
      by_cases z : e.2 / p = (m : Int)
      · have : ¬ e.2 / p = (a : Int) := fun y => h.1 (by
          have : (a : Int) = m := y.symm.trans z
          have : a = m := by omega
          rw [this]; exact hm)
        simp [z, this]
        intro y
        exact absurd (by rw [z, y]) this
      · simp [z]
    have e2 : (ps.length : Int) = ((ps.filter fun e => decide (e.2 / p = (a : Int))).length : Int) + ((ps.filter fun e => !decide (e.2 / p = (a : Int))).length : Int) := by
      have := List.length_eq_countP_add_countP (l := ps) (fun e => decide (e.2 / p = (a : Int)))
      rw [List.countP_eq_length_filter, List.countP_eq_length_filter] at this
      rw [this]
      push_cast
      congr 4
      funext e
      simp
    rw [List.map_cons, List.sum_cons, e1, e2]
    omega
theorem sum_ge {f : Nat → Int} {c : Int} : ∀ {l : List Nat}, (∀ n ∈ l, c ≤ f n) → c * (l.length : Int) ≤ (l.map f).sum
  | [], _ => by simp
  | a :: l, h => by
    have := sum_ge (l := l) fun n hn => h n (List.mem_cons_of_mem _ hn)
    have := h a List.mem_cons_self
    rw [List.map_cons, List.sum_cons, List.length_cons]
    push_cast
    rw [Int.mul_add, Int.mul_one]
    omega
/-- some full block has a page that isn't live, where there are more full ones than live pages fill -/
theorem live_some {q : Pc} {k : Bk} (hw : Wf q k) {L : List Nat} (hn : L.Nodup) (hb : ∀ n ∈ L, n < q.b.toNat) (h : (k.wh.length : Int) < q.p * (L.length : Int)) : ∃ n ∈ L, k.live.getD n 0 < q.p := by
  by_cases z : ∃ n ∈ L, k.live.getD n 0 < q.p
  · exact z
  · have h1 := sum_ge (c := q.p) (f := fun n => k.live.getD n 0) (l := L) fun n hn => by
      by_cases y : k.live.getD n 0 < q.p
      · exact absurd ⟨n, hn, y⟩ z
      · omega
    rw [sum_same (g := fun n : Nat => ((k.wh.filter fun e => decide (e.2 / k.p = (n : Int))).length : Int)) fun m hm => hw.lv m (hb m hm)] at h1
    have := sum_filt k.p L k.wh hn
    omega
theorem full_cnt {q : Pc} {k : Bk} (hw : Wf q k) (ho : OneP q k) {r : Int} (h : clrP q k = r * q.p) : ((((goodQ q).filter fun n => decide (k.fil.getD n 0 = q.p)).length : Int)) = ((goodQ q).length : Int) - r ∧ partQ q k = none := by
  have hp : 1 ≤ q.p := by have := hw.bk.p; have := hw.kp; omega
  obtain ⟨a1, a2, a3, a4⟩ := sp0_le (k := k) hp
  rw [clr_split hw ho] at h
  have e0 : sp0 q k = 0 := by
    have h1 : ((freeQ q k).length : Int) * q.p ≤ r * q.p := by omega
    have h2 : ((freeQ q k).length : Int) ≤ r := Int.le_of_mul_le_mul_right h1 (by omega)
    have h3 : r * q.p < ((freeQ q k).length + 1) * q.p := by rw [Int.add_mul, Int.one_mul]; omega
    have h4 : r < (freeQ q k).length + 1 := Int.lt_of_mul_lt_mul_right h3 (by omega)
    have h5 : r = ((freeQ q k).length : Int) := by omega
    rw [h5] at h
    omega
  have pn : partQ q k = none := by
    cases hp : partQ q k with
    | none => rfl
    | some n => have := a4 (by rw [hp]; exact fun z => by cases z); omega
  refine ⟨?_, pn⟩
  have hr : ((freeQ q k).length : Int) = r := by
    refine Int.eq_of_mul_eq_mul_right (a := q.p) (by omega) ?_
    omega
  have e := List.length_eq_countP_add_countP (l := goodQ q) (fun n => decide (k.fil.getD n 0 = 0))
  rw [List.countP_eq_length_filter, List.countP_eq_length_filter] at e
  have e1 : ((goodQ q).filter fun n => decide (k.fil.getD n 0 = 0)).length = (freeQ q k).length := by unfold freeQ; rw [List.length_map]
  have e2 : ((goodQ q).filter fun n => decide (¬ decide (k.fil.getD n 0 = 0) = true)) = (goodQ q).filter fun n => decide (k.fil.getD n 0 = q.p) := by
    refine List.filter_congr fun n hn => ?_
    have := partQ_none.mp pn n hn
    unfold isPt at this
    have hf := hw.fil n
    rw [hw.kp] at hf
    rw [decide_eq_decide, decide_eq_true_eq]
    omega
  rw [e2, e1] at e
  omega
/-! ### a store on a sound chip, with no heap -/
structure Hl (q : Pc) : Prop where
  br : ∀ n : Nat, q.broken.getD n false = false
  ls : ∀ n : Nat, q.lasts.getD n .non = .non
  m : q.m = 1000000
theorem Hl.good {q : Pc} (h : Hl q) : goodQ q = List.range q.b.toNat := List.filter_eq_self.mpr fun n _ => by rw [h.br]; rfl
theorem Hl.well {q : Pc} (h : Hl q) (n : Nat) (b : Bool) : q.well n b = !b := by
  unfold Pc.well
  rw [h.ls, decide_eq_false (fun z => by cases z)]
  cases b <;> rfl
theorem Hl.said {q : Pc} (h : Hl q) (n : Nat) (e : Str × Int) : Hl (q.said n true e) := ⟨fun m => by
  show (q.broken.set n (!true)).getD m false = false
  rw [getD_set']
  split
  · rfl
  · exact h.br m, h.ls, h.m⟩
/-- kinds of stores without failing blocks -/
def Kd2 (kd : Kd) : Prop := kd = .store ∨ kd = .even
theorem Kd2.ne {kd : Kd} (h : Kd2 kd) : kd ≠ .plain ∧ kd ≠ .sure := by rcases h with rfl | rfl <;> exact ⟨(fun z => by cases z), (fun z => by cases z)⟩
theorem Kd2.res {kd : Kd} (h : Kd2 kd) {t : Ts} {q : Pc} : resvQ kd t q = 1 + t.i := by rcases h with rfl | rfl <;> rfl
/-- deeds done -/
def putD (pg : Int) : Str × Int × Bool := ("put", pg, true)
def wipeD (n : Int) : Str × Int × Bool := ("wipe", n, true)
structure Dd (s s' : St) (ds : List (Str × Int × Bool)) : Prop where
  log : s'.q.log = s.q.log ++ ds
  left : s'.q.left = s.q.left.map (· - (ds.length : Int))
theorem Dd.refl {s : St} : Dd s s [] := ⟨by rw [List.append_nil], by cases s.q.left <;> simp⟩
theorem Dd.trans {s s1 s2 : St} {d e : List (Str × Int × Bool)} (a : Dd s s1 d) (b : Dd s1 s2 e) : Dd s s2 (d ++ e) := ⟨by rw [b.log, a.log, List.append_assoc], by
  rw [b.left, a.left, Option.map_map, List.length_append]
  congr 1
  funext x
  show x - _ - _ = _
  push_cast
  omega⟩
/-- what a name's page bears -/
def valQ (s : St) (n : Int) : Option Int := (getI s.k.wh n).map fun pg => ((s.q.ct.getD pg.toNat none).getD (0, 0)).2
structure Cont (s s' : St) : Prop where
  keys : ∀ n, (getI s'.k.wh n).isSome = (getI s.k.wh n).isSome
  vals : ∀ n, n ≠ 64 → valQ s' n = valQ s n
theorem Cont.refl {s : St} : Cont s s := ⟨fun _ => rfl, fun _ _ => rfl⟩
theorem Cont.trans {s s1 s2 : St} (a : Cont s s1) (b : Cont s1 s2) : Cont s s2 := ⟨fun n => (b.keys n).trans (a.keys n), fun n h => (b.vals n h).trans (a.vals n h)⟩
/-- a page was put -/
def putS (s : St) (to : Int) (m : Nat) (n v : Int) : St := { s with q := { s.q.said m true ("put", to) with ct := s.q.ct.set to.toNat (some (mk s.k.stamp n, v)) }, k := s.k.note to n }
theorem put_val {s : St} {to : Int} {m : Nat} {n v nm : Int} (hw : Wf s.q s.k) (sp : Spot s.q s.k to m) : valQ (putS s to m n v) nm = if nm = n then some v else valQ s nm := by
  have hl : to.toNat < s.q.ct.length := by
    have := hw.ctl
    have := sp.lo
    have := sp.hi
    omega
  unfold valQ
  show (getI (s.k.note to n).wh nm).map (fun pg => (((s.q.ct.set to.toNat (some (mk s.k.stamp n, v))).getD pg.toNat none).getD (0, 0)).2) = _
  rw [note_wh]
  split
  · show some (((s.q.ct.set to.toNat (some (mk s.k.stamp n, v))).getD to.toNat none).getD (0, 0)).2 = _
    rw [getD_set hl, if_pos rfl]
    rfl
  · cases hg : getI s.k.wh nm with
    | none => rfl
    | some pg =>
      show some (((s.q.ct.set to.toNat (some (mk s.k.stamp n, v))).getD pg.toNat none).getD (0, 0)).2 = some _
      obtain ⟨⟨e, he⟩, _⟩ := hw.own _ _ hg
      rw [getD_set hl, if_neg (fun z => by rw [z, hw.blank sp] at he; cases he)]
theorem put_dd {s : St} {to : Int} {m : Nat} {n v : Int} : Dd s (putS s to m n v) [putD to] := ⟨rfl, by
  show s.q.left.map (· - 1) = s.q.left.map _
  rfl⟩
/-- setting down on a sound chip -/
theorem setDown_hl {s : St} {n v : Int} (hw : Wf s.q s.k) (hl : Hl s.q) : (spotQ s.q s.k = none ∧ setDown s n v = (.error .noroom, s)) ∨ (s.q.dark = true ∧ setDown s n v = (.error .dark, s)) ∨ ∃ pg m, Spot s.q s.k pg m ∧ s.q.dark = false ∧ setDown s n v = (.ok pg, putS s pg m n v) := by
  have hp : 1 ≤ s.q.p := by have := hw.bk.p; have := hw.kp; omega
  rcases setDown_cases (s := s) (n := n) (v := v) hp with h | ⟨pg, m, sp, _, h | ⟨h1, _, h2⟩ | ⟨_, h, _⟩⟩
  · exact .inl h
  · exact .inr (.inl h)
  · exact .inr (.inr ⟨pg, m, sp, h1, h2⟩)
  · rw [hl.well] at h
    cases h
theorem put_wf {s : St} {to : Int} {m : Nat} {n v : Int} (hw : Wf s.q s.k) (sp : Spot s.q s.k to m) (hn : 0 ≤ n ∧ n ≤ 64) (hs : s.k.stamp + 1 < 10 ^ 40) : Wf (putS s to m n v).q (putS s to m n v).k :=
  hw.put sp hn hs rfl rfl rfl rfl (by show _ ≤ (s.q.log ++ [_]).length; rw [List.length_append]; omega)
theorem put_hl {s : St} {to : Int} {m : Nat} {n v : Int} (hl : Hl s.q) : Hl (putS s to m n v).q := ⟨(hl.said m ("put", to)).br, hl.ls, hl.m⟩
theorem put_good {s : St} {to : Int} {m : Nat} {n v : Int} (hl : Hl s.q) : goodQ (putS s to m n v).q = goodQ s.q := by rw [(put_hl hl).good, hl.good]; rfl
/-- what stands between two askings -/
structure Gd (t : Ts) (s : St) : Prop where
  wf : Wf s.q s.k
  hl : Hl s.q
  one : OneP s.q s.k
  tb : t.b = s.q.b ∧ t.p = s.q.p
  ti : 0 ≤ t.i
  lo : t.i * s.q.p ≤ clrP s.q s.k
  fl : clrP s.q s.k < (1 + t.i) * s.q.p → ∃ n ∈ goodQ s.q, s.k.fil.getD n 0 = s.q.p ∧ s.k.live.getD n 0 + t.i * s.q.p ≤ clrP s.q s.k
/-- a full block's live pages go elsewhere -/
structure Mov (t : Ts) (n : Nat) (s : St) : Prop where
  wf : Wf s.q s.k
  hl : Hl s.q
  one : OneP s.q s.k
  tb : t.b = s.q.b ∧ t.p = s.q.p
  ti : 0 ≤ t.i
  lo : t.i * s.q.p ≤ clrP s.q s.k
  gn : n ∈ goodQ s.q
  fu : s.k.fil.getD n 0 = s.q.p
  lv : s.k.live.getD n 0 + t.i * s.q.p ≤ clrP s.q s.k
theorem Mov.lt {t : Ts} {n : Nat} {s : St} (h : Mov t n s) : n < s.q.b.toNat := List.mem_range.mp (List.mem_filter.mp h.gn).1
theorem Mov.ru {t : Ts} {n : Nat} {s : St} (h : Mov t n s) (ru : Rl) : Mov t n { s with ru } := ⟨h.wf, h.hl, h.one, h.tb, h.ti, h.lo, h.gn, h.fu, h.lv⟩
/-- a live page of the block is put elsewhere -/
theorem Mov.put {t : Ts} {n m : Nat} {s : St} {pg nm to v : Int} (h : Mov t n s) (sp : Spot s.q s.k to m) (hg : getI s.k.wh nm = some pg) (hb : pg / s.k.p = (n : Int)) (hs : s.k.stamp + 1 < 10 ^ 40) : Mov t n (putS s to m nm v) ∧ (putS s to m nm v).k.live.getD n 0 = s.k.live.getD n 0 - 1 ∧ clrP (putS s to m nm v).q (putS s to m nm v).k = clrP s.q s.k - 1 := by
  have hn := h.wf.rng _ (getI_mem hg)
  have hw := put_wf (v := v) h.wf sp hn hs
  obtain ⟨c1, c2⟩ := clr_note (q' := (putS s to m nm v).q) (nm := nm) h.wf h.one sp (put_good h.hl) rfl
  have hlt := h.lt
  have hmn : m ≠ n := fun z => by have := sp.f1; rw [z, h.fu] at this; omega
  have hl := h.wf.bk.live
  have hkb := h.wf.kb
  have hkp := h.wf.kp
  have hblk : (to / s.k.p).toNat = m := by rw [hkp, sp.blk, Int.toNat_natCast]
  have elv : (putS s to m nm v).k.live.getD n 0 = s.k.live.getD n 0 - 1 := by
    show ((s.k.drop nm).live.set (to / s.k.p).toNat _).getD n 0 = _
    rw [hblk, getD_set', if_neg (fun z => hmn z.1.symm), drop_lv, hg]
    dsimp only
    rw [getD_set', hb, Int.toNat_natCast, if_pos ⟨rfl, by omega⟩]
  have efl : (putS s to m nm v).k.fil.getD n 0 = s.k.fil.getD n 0 := by
    show (s.k.note to nm).fil.getD n 0 = _
    rw [note_fil, hblk, getD_set', if_neg (fun z => hmn z.1.symm)]
  have h1 := h.lv
  have h2 := (hw.live_le (n := n) (by exact hlt)).1
  rw [elv] at h2
  refine ⟨⟨hw, put_hl h.hl, c2, h.tb, h.ti, ?_, ?_, ?_, ?_⟩, elv, c1⟩
  · rw [show clrP (putS s to m nm v).q (putS s to m nm v).k = clrP s.q s.k - 1 from c1]
    show t.i * s.q.p ≤ _
    omega
  · rw [put_good h.hl]; exact h.gn
  · rw [efl]; exact h.fu
  · rw [elv, show clrP (putS s to m nm v).q (putS s to m nm v).k = clrP s.q s.k - 1 from c1]
    show _ + t.i * s.q.p ≤ _
    omega
/-! ### live pages, told and counted -/
theorem nodup_sub {α : Type} [DecidableEq α] : ∀ {l l' : List α}, l.Nodup → (∀ x ∈ l, x ∈ l') → l.length ≤ l'.length
  | [], _, _, _ => Nat.zero_le _
  | a :: l, l', h, s => by
    rw [List.nodup_cons] at h
    have ha := s a List.mem_cons_self
    have ih := nodup_sub (l := l) (l' := l'.erase a) h.2 fun x hx => (List.mem_erase_of_ne (fun z => h.1 (by rw [← z]; exact hx))).mpr (s x (List.mem_cons_of_mem _ hx))
    have := List.length_erase_of_mem ha
    have := List.length_pos_of_mem ha
    rw [List.length_cons]
    omega
theorem sub_filterMap {f : Int → Option (Int × Int)} (hf : ∀ x y, f x = some y → y.1 = x) : ∀ l : List Int, ((l.filterMap f).map (·.1)).Sublist l
  | [] => .slnil
  | a :: l => by
    cases e : f a with
    | none => rw [List.filterMap_cons_none e]; exact (sub_filterMap hf l).cons _
    | some y =>
      rw [List.filterMap_cons_some e, List.map_cons, hf _ _ e]
      exact (sub_filterMap hf l).cons_cons _
theorem liveQ_nodup {k : Bk} {n : Int} : ((liveQ k n).map (·.1)).Nodup := by
  unfold liveQ
  refine List.Nodup.sublist (sub_filterMap (fun x y h => ?_) _) ?_
  · split at h
    · cases h; rfl
    · cases h
  · refine List.pairwise_map.mpr (List.nodup_range.imp fun {a b} h z => h ?_)
    omega
theorem liveQ_names {s : St} (h : Wf s.q s.k) {n : Nat} (hn : n < s.q.b.toNat) : ((liveQ s.k n).map (·.2)).Nodup := by
  have hb : (n : Int) < s.q.b := by omega
  have h1 : (liveQ s.k n).Nodup := List.Pairwise.of_map (fun e : Int × Int => e.1) (fun a b (h : a.1 ≠ b.1) (z : a = b) => h (by rw [z])) liveQ_nodup
  refine List.pairwise_map.mpr (List.Pairwise.imp_of_mem (fun {x y} hx hy e z => e ?_) h1)
  have hx2 := (h.liveOk ⟨Int.natCast_nonneg _, hb⟩ hx).2
  have hy2 := (h.liveOk ⟨Int.natCast_nonneg _, hb⟩ hy).2
  rw [z] at hx2
  rw [hx2] at hy2
  injection hy2 with hy2
  exact Prod.ext hy2 z
theorem liveQ_len {s : St} (h : Wf s.q s.k) {n : Nat} (hn : n < s.q.b.toNat) : ((liveQ s.k n).length : Int) = s.k.live.getD n 0 := by
  have hb : (n : Int) < s.q.b := by omega
  rw [h.lv n hn]
  have h1 : (liveQ s.k n).Nodup := List.Pairwise.of_map (fun e : Int × Int => e.1) (fun a b (h : a.1 ≠ b.1) (z : a = b) => h (by rw [z])) liveQ_nodup
  have hp := h.bk.p
  have d1 := nodup_sub (l := (liveQ s.k n).map fun e => (e.2, e.1)) (l' := s.k.wh.filter fun e => decide (e.2 / s.k.p = (n : Int))) (List.pairwise_map.mpr (h1.imp fun {a b} (e : a ≠ b) (z : (a.2, a.1) = (b.2, b.1)) => e (Prod.ext (Prod.mk.inj z).2 (Prod.mk.inj z).1))) (fun x hx => by
    obtain ⟨e, he, rfl⟩ := List.mem_map.mp hx
    have h2 := (h.liveOk ⟨Int.natCast_nonneg _, hb⟩ he).2
    obtain ⟨⟨j, hj, ej⟩, _⟩ := liveQ_mem he
    refine List.mem_filter.mpr ⟨getI_mem h2, decide_eq_true ?_⟩
    have := page_at (n := n) (p := s.k.p) (x := (j : Int)) (by omega) (by omega) (by omega)
    show e.1 / s.k.p = _
    rw [ej]
    exact this.1)
  have h3 : (s.k.wh.filter fun e => decide (e.2 / s.k.p = (n : Int))).Nodup := List.Pairwise.filter _ (List.Pairwise.of_map (fun e : Int × Int => e.1) (fun a b (h : a.1 ≠ b.1) (z : a = b) => h (by rw [z])) h.keys)
  have d2 := nodup_sub (l := (s.k.wh.filter fun e => decide (e.2 / s.k.p = (n : Int))).map fun e => (e.2, e.1)) (l' := liveQ s.k n) (List.pairwise_map.mpr (h3.imp fun {a b} (e : a ≠ b) (z : (a.2, a.1) = (b.2, b.1)) => e (Prod.ext (Prod.mk.inj z).2 (Prod.mk.inj z).1))) (fun x hx => by
    obtain ⟨e, he, rfl⟩ := List.mem_map.mp hx
    obtain ⟨h4, h5⟩ := List.mem_filter.mp he
    have h6 := getI_of_mem h.keys (n := e.1) (x := e.2) h4
    obtain ⟨e', h7, h8⟩ := h.liveAll _ _ h6 (of_decide_eq_true h5)
    have h9 := (h.liveOk ⟨Int.natCast_nonneg _, hb⟩ h7).2
    rw [h8, h6] at h9
    injection h9 with h9
    have : e' = (e.2, e.1) := Prod.ext h9.symm h8
    rw [← this]
    exact h7)
  rw [List.length_map] at d1 d2
  omega
/-! ### a making of room -/
theorem fullQ_in {kd : Kd} {t : Ts} {q : Pc} {k : Bk} {n : Nat} (hg : n ∈ goodQ q) (h1 : k.fil.getD n 0 = t.p) (h2 : k.live.getD n 0 ≤ spaceQ kd t q k) : tallyQ q k n ∈ fullQ kd t q k :=
  List.mem_map.mpr ⟨n, List.mem_filter.mpr ⟨hg, by rw [decide_eq_true h1, decide_eq_true h2]; rfl⟩, rfl⟩
theorem Gd.pos {t : Ts} {s : St} (h : Gd t s) : 1 ≤ s.q.p ∧ s.q.p ≤ 16 ∧ 0 ≤ t.i * s.q.p ∧ (1 + t.i) * s.q.p = s.q.p + t.i * s.q.p := by
  have h1 := h.wf.bk.p
  have h2 := h.wf.kp
  exact ⟨by omega, by omega, Int.mul_nonneg h.ti (by omega), by rw [Int.add_mul, Int.one_mul]⟩
theorem Gd.space {kd : Kd} (hk : Kd2 kd) {t : Ts} {s : St} (h : Gd t s) : ((1 + t.i) * s.q.p ≤ clrP s.q s.k → spaceQ kd t s.q s.k = s.q.p) ∧ (clrP s.q s.k < (1 + t.i) * s.q.p → spaceQ kd t s.q s.k = clrP s.q s.k - t.i * s.q.p) := by
  have e : (1 : Int) + t.i - 1 = t.i := by omega
  have := space_clr (kd := kd) (t := t) h.wf h.one h.tb.2 (by rw [hk.res, e]; exact h.lo)
  rw [hk.res, e] at this
  exact this
theorem Gd.ready {kd : Kd} (hk : Kd2 kd) {t : Ts} {s : St} (h : Gd t s) : readyQ kd t s.q s.k = decide ((1 + t.i) * s.q.p < clrP s.q s.k) := by
  rw [ready_clr h.wf h.one, hk.res]
theorem blankP_hi {l : List (Option (Int × Int))} {s i m : Nat} (h : ¬ (s ≤ m ∧ m < s + i)) : (blankP l s i).getD m none = l.getD m none := by rw [blankP_get, if_neg h]
/-- a block without live pages is cleared -/
def wipS (s : St) (n : Nat) : St := { s with q := { s.q.said n true ("wipe", (n : Int)) with clr := s.q.clr.set n (s.q.clr.getD n 0 + 1), ct := blankP s.q.ct (n * s.q.p.toNat) s.q.p.toNat }, k := s.k.empt n }
theorem wip_val {s : St} {n : Nat} {nm : Int} (hw : Wf s.q s.k) (hno : NoLive s.k n) : valQ (wipS s n) nm = valQ s nm := by
  unfold valQ
  show (getI s.k.wh nm).map (fun pg => (((blankP s.q.ct (n * s.q.p.toNat) s.q.p.toNat).getD pg.toNat none).getD (0, 0)).2) = _
  cases hg : getI s.k.wh nm with
  | none => rfl
  | some pg =>
    show some (((blankP s.q.ct (n * s.q.p.toNat) s.q.p.toNat).getD pg.toNat none).getD (0, 0)).2 = some ((s.q.ct.getD pg.toNat none).getD (0, 0)).2
    have h1 := hno nm pg hg
    have hwh := hw.bk.wh _ (getI_mem hg)
    have hp := hw.bk.p
    have ekp := hw.kp
    dsimp only at hwh
    rw [blankP_hi]
    intro z
    apply h1
    have e : pg = (n : Int) * s.k.p + (pg - (n : Int) * s.k.p) := by omega
    have h2 : ((n * s.q.p.toNat : Nat) : Int) = (n : Int) * s.k.p := by push_cast; rw [ekp]; congr 1; omega
    have h3 : 0 ≤ pg - (n : Int) * s.k.p ∧ pg - (n : Int) * s.k.p < s.k.p := by omega
    rw [e]
    exact (page_at (by omega) h3.1 h3.2).1
theorem wip_dd {s : St} {n : Nat} : Dd s (wipS s n) [wipeD n] := ⟨rfl, rfl⟩
theorem NoLive.of {q : Pc} {k : Bk} (hw : Wf q k) {n : Nat} (hn : n < q.b.toNat) (h : k.live.getD n 0 = 0) : NoLive k n := fun nm pg hg hb => by
  have := hw.lv n hn
  rw [h] at this
  have e : (k.wh.filter fun e => decide (e.2 / k.p = (n : Int))) = [] := List.length_eq_zero_iff.mp (by omega)
  have : (nm, pg) ∈ k.wh.filter fun e => decide (e.2 / k.p = (n : Int)) := List.mem_filter.mpr ⟨getI_mem hg, decide_eq_true hb⟩
  rw [e] at this
  cases this
/-! ### a store's makings, all that an ask needs -/
/-- how many pages may be live -/
def Few (t : Ts) (s : St) : Prop := (s.k.wh.length : Int) < s.q.p * (t.b - 1 - t.i)
/-! ### an ask of a store, with no heap -/
theorem choose_ok {R : Rl} {ts : List Tal} {p n : Int} (h : R.ok) : (R.choose ts p n).2.ok := by cases R <;> exact h
theorem choice_ok {kd : Kd} {t : Ts} {s : St} (h : s.ru.ok) : (choiceQ kd t s).2.ok := by
  unfold choiceQ
  split
  · exact h
  · exact choose_ok h
theorem Cont.len {s s' : St} (h : Wf s.q s.k) (h' : Wf s'.q s'.k) (c : Cont s s') : s'.k.wh.length = s.k.wh.length := by
  have key : ∀ {a b : St}, Wf a.q a.k → (∀ n, (getI a.k.wh n).isSome = (getI b.k.wh n).isSome) → a.k.wh.length ≤ b.k.wh.length := fun {a b} ha e => by
    have := nodup_sub (l := a.k.wh.map (·.1)) (l' := b.k.wh.map (·.1)) ha.keys fun x hx => by
      have h1 : getI a.k.wh x ≠ none := fun z => getI_key.mp z hx
      by_cases z : x ∈ b.k.wh.map (·.1)
      · exact z
      · have h2 := getI_key.mpr z
        have h3 := e x
        rw [h2] at h3
        cases hg : getI a.k.wh x with
        | none => exact absurd hg h1
        | some y => rw [hg] at h3; cases h3
    rw [List.length_map, List.length_map] at this
    exact this
  exact Nat.le_antisymm (key h' c.keys) (key h fun n => (c.keys n).symm)
theorem Cont.few {t : Ts} {s s' : St} (h : Gd t s) (h' : Gd t s') (c : Cont s s') (f : Few t s) : Few t s' := by
  unfold Few at f ⊢
  rw [c.len h.wf h'.wf, ← h'.tb.2, h.tb.2]
  exact f
theorem rooms_go {kd : Kd} {t : Ts} {f : Nat} {s : St} (hr : readyQ kd t s.q s.k = true) : roomsQ kd t (f + 1) s = (.ok (), s) := by rw [rooms_succ, if_pos hr]
theorem rooms_ok {kd : Kd} {t : Ts} {f : Nat} {s : St} {u : Pap} (hr : readyQ kd t s.q s.k = false) (h : (roomQ kd t s).1 = .ok u) : roomsQ kd t (f + 1) s = roomsQ kd t f (roomQ kd t s).2 := by
  rw [rooms_succ, if_neg (by rw [hr]; decide)]
  generalize roomQ kd t s = x at h
  obtain ⟨o, s'⟩ := x
  have h : o = _ := h
  subst h
  rfl
theorem rooms_err {kd : Kd} {t : Ts} {f : Nat} {s : St} {e : Rf} (hr : readyQ kd t s.q s.k = false) (h : (roomQ kd t s).1 = .error e) : roomsQ kd t (f + 1) s = (.error e, (roomQ kd t s).2) := by
  rw [rooms_succ, if_neg (by rw [hr]; decide)]
  generalize roomQ kd t s = x at h
  obtain ⟨o, s'⟩ := x
  have h : o = _ := h
  subst h
  rfl
/-- a name that is not told to be held -/
theorem Gd.put {t : Ts} {s : St} {to : Int} {m : Nat} {n v : Int} (h : Gd t s) (sp : Spot s.q s.k to m) (hn : 0 ≤ n ∧ n ≤ 64) (hs : s.k.stamp + 1 < 10 ^ 40) (hr : (1 + t.i) * s.q.p < clrP s.q s.k) : Gd t (putS s to m n v) ∧ (1 + t.i) * (putS s to m n v).q.p ≤ clrP (putS s to m n v).q (putS s to m n v).k := by
  obtain ⟨c1, c2⟩ := clr_note (q' := (putS s to m n v).q) (nm := n) h.wf h.one sp (put_good h.hl) rfl
  obtain ⟨p1, p2, p3, p4⟩ := h.pos
  have c1 : clrP (putS s to m n v).q (putS s to m n v).k = clrP s.q s.k - 1 := c1
  have ep : (putS s to m n v).q.p = s.q.p := rfl
  refine ⟨⟨put_wf h.wf sp hn hs, put_hl h.hl, c2, h.tb, h.ti, ?_, ?_⟩, ?_⟩
  · rw [c1, ep]; omega
  · rw [c1, ep]; intro z; omega
  · rw [c1, ep]; omega
/-- the names but the roll -/
theorem heldL_some {s : St} {n : Int} : n ∈ heldL s.k ↔ (getI s.k.wh n).isSome = true ∧ n ≠ 64 := by
  rw [heldL_mem]
  constructor
  · rintro ⟨⟨pg, h⟩, h2⟩
    refine ⟨?_, h2⟩
    cases hg : getI s.k.wh n with
    | none => exact absurd (List.mem_map.mpr ⟨_, h, rfl⟩) (getI_key.mp hg)
    | some x => rfl
  · rintro ⟨h, h2⟩
    cases hg : getI s.k.wh n with
    | none => rw [hg] at h; cases h
    | some x => exact ⟨⟨x, getI_mem hg⟩, h2⟩
theorem Wf.wh_le {q : Pc} {k : Bk} (h : Wf q k) : k.wh.length ≤ (heldL k).length + 1 := by
  have := nodup_sub (l := k.wh.map (·.1)) (l' := 64 :: heldL k) h.keys fun x hx => by
    by_cases z : x = 64
    · rw [z]; exact List.mem_cons_self
    · obtain ⟨e, he, rfl⟩ := List.mem_map.mp hx
      exact List.mem_cons_of_mem _ (heldL_mem.mpr ⟨⟨e.2, he⟩, z⟩)
  rw [List.length_map, List.length_cons] at this
  exact this
theorem Wf.held_nodup {q : Pc} {k : Bk} (h : Wf q k) : (heldL k).Nodup := by
  unfold heldL
  exact (sortZ_perm _).nodup_iff.mpr (h.keys.filter _)
/-! names dropped -/
/-! ### stores of any kind but the plain one, on chips that may fail, with no heap -/
theorem foldl_minU : ∀ (l : List Int) (n : Int), l.foldl min n ∈ n :: l ∧ ∀ m ∈ n :: l, l.foldl min n ≤ m
  | [], n => ⟨List.mem_cons_self, fun m h => by rw [List.mem_singleton.mp h]; exact Int.le_refl _⟩
  | a :: l, n => by
    obtain ⟨h1, h2⟩ := foldl_minU l (min n a)
    rw [List.foldl_cons]
    have h3 := h2 _ List.mem_cons_self
    refine ⟨?_, fun m h => ?_⟩
    · rcases List.mem_cons.mp h1 with h | h
      · rw [h]
        rcases Int.le_total n a with z | z
        · rw [Int.min_eq_left z]; exact List.mem_cons_self
        · rw [Int.min_eq_right z]; exact List.mem_cons_of_mem _ List.mem_cons_self
      · exact List.mem_cons_of_mem _ (List.mem_cons_of_mem _ h)
    · rcases List.mem_cons.mp h with rfl | h
      · exact Int.le_trans h3 (Int.min_le_left _ _)
      rcases List.mem_cons.mp h with rfl | h
      · exact Int.le_trans h3 (Int.min_le_right _ _)
      · exact h2 m (List.mem_cons_of_mem _ h)
theorem minZ_memU {d : Int} : ∀ {l : List Int}, l ≠ [] → minZ d l ∈ l ∧ ∀ m ∈ l, minZ d l ≤ m
  | [], h => absurd rfl h
  | n :: l, _ => foldl_minU l n
theorem least_of {q : Pc} {n : Nat} (h : n ∈ goodQ q) : (∃ m ∈ goodQ q, q.clr.getD m 0 = leastQ q) ∧ ∀ m ∈ goodQ q, leastQ q ≤ q.clr.getD m 0 := by
  have hne : clrsQ q ≠ [] := List.ne_nil_of_mem (List.mem_map.mpr ⟨n, h, rfl⟩)
  obtain ⟨h1, h2⟩ := minZ_memU (d := 0) hne
  obtain ⟨m, hm, e⟩ := List.mem_map.mp h1
  exact ⟨⟨m, hm, e⟩, fun g hg => h2 _ (List.mem_map.mpr ⟨g, hg, rfl⟩)⟩
/-- how many clear pages there are above the reserve -/
def Dq (kd : Kd) (t : Ts) (q : Pc) (k : Bk) : Int := clrP q k - resvQ kd t q * q.p
/-- how alike a store's blocks have worn -/
structure Evn (z : Int) (q : Pc) (k : Bk) : Prop where
  gap : ∀ n ∈ goodQ q, ∀ m ∈ goodQ q, q.clr.getD n 0 ≤ q.clr.getD m 0 + z
  old : ∀ f ∈ goodQ q, k.fil.getD f 0 = 0 → ∀ g ∈ goodQ q, k.fil.getD g 0 ≠ 0 → q.clr.getD g 0 ≤ q.clr.getD f 0 + z - 1
/-! pages that are written, told by the deeds; no page is put that isn't clear -/
def wrS (p : Int) (W : List Int) (e : Str × Int × Bool) : List Int := if e.2.2 = true then (if e.1 = ("put" : Str) then W ++ [e.2.1] else W.filter fun x => decide (x / p ≠ e.2.1)) else W
def wrL (p : Int) (l : List (Str × Int × Bool)) : List Int := l.foldl (wrS p) []
theorem wrL_snoc {p : Int} {l : List (Str × Int × Bool)} {e : Str × Int × Bool} : wrL p (l ++ [e]) = wrS p (wrL p l) e := by unfold wrL; rw [List.foldl_append]; rfl
def CleanL (p : Int) (l : List (Str × Int × Bool)) : Prop := ∀ i e, l[i]? = some e → e.1 = ("put" : Str) → e.2.2 = true → e.2.1 ∉ wrL p (l.take i)
theorem CleanL.snoc {p : Int} {l : List (Str × Int × Bool)} {e : Str × Int × Bool} (h : CleanL p l) (he : e.1 = ("put" : Str) → e.2.2 = true → e.2.1 ∉ wrL p l) : CleanL p (l ++ [e]) := fun i x hx h1 h2 => by
  by_cases hi : i < l.length
  · rw [List.getElem?_append_left hi] at hx
    rw [List.take_append_of_le_length (by omega)]
    exact h i x hx h1 h2
  · have hl := (List.getElem?_eq_some_iff.mp hx).1
    rw [List.length_append, List.length_singleton] at hl
    have hi : i = l.length := by omega
    subst hi
    rw [List.getElem?_append_right (Nat.le_refl _), Nat.sub_self] at hx
    have hx : e = x := by injection hx
    subst hx
    rw [List.take_append_of_le_length (Nat.le_refl _), List.take_length]
    exact he h1 h2
structure Cln (q : Pc) : Prop where
  cl : CleanL q.p q.log
  ct : ∀ x ∈ wrL q.p q.log, 0 ≤ x ∧ q.ct.getD x.toNat none ≠ none
  bd : ∀ e ∈ q.log, e.2.2 = true → 0 ≤ e.2.1 ∧ e.2.1 < 256
theorem bd_snoc {l : List (Str × Int × Bool)} {e : Str × Int × Bool} (h : ∀ e ∈ l, e.2.2 = true → 0 ≤ e.2.1 ∧ e.2.1 < 256) (he : e.2.2 = true → 0 ≤ e.2.1 ∧ e.2.1 < 256) : ∀ x ∈ l ++ [e], x.2.2 = true → 0 ≤ x.2.1 ∧ x.2.1 < 256 := fun x hx => by
  rcases List.mem_append.mp hx with hx | hx
  · exact h x hx
  · rw [List.mem_singleton.mp hx]; exact he
theorem Cln.put {q q' : Pc} {to : Int} {e : Int × Int} (h : Cln q) (ep : q'.p = q.p) (el : q'.log = q.log ++ [(("put" : Str), to, true)]) (ec : q'.ct = q.ct.set to.toNat (some e)) (h0 : 0 ≤ to ∧ to < 256) (hl : to.toNat < q.ct.length) (hn : q.ct.getD to.toNat none = none) : Cln q' := by
  refine ⟨by rw [ep, el]; exact h.cl.snoc fun _ _ z => (h.ct to z).2 hn, fun x hx => ?_, by rw [el]; exact bd_snoc h.bd fun _ => h0⟩
  rw [ep, el, wrL_snoc] at hx
  unfold wrS at hx
  rw [if_pos rfl, if_pos rfl] at hx
  rw [ec, getD_set hl]
  rcases List.mem_append.mp hx with hx | hx
  · obtain ⟨a, b⟩ := h.ct x hx
    refine ⟨a, ?_⟩
    split
    · exact fun z => by cases z
    · exact b
  · rw [List.mem_singleton.mp hx, if_pos rfl]
    exact ⟨h0.1, fun z => by cases z⟩
theorem Cln.fail {q q' : Pc} {e : Str × Int} (h : Cln q) (ep : q'.p = q.p) (el : q'.log = q.log ++ [(e.1, e.2, false)]) (ec : q'.ct = q.ct) : Cln q' := by
  refine ⟨by rw [ep, el]; exact h.cl.snoc fun _ z => (by cases z), fun x hx => ?_, by rw [el]; exact bd_snoc h.bd fun z => (by cases z)⟩
  rw [ep, el, wrL_snoc] at hx
  rw [ec]
  exact h.ct x hx
theorem Cln.wipe {q q' : Pc} {n : Nat} (h : Cln q) (hp : 1 ≤ q.p) (hn : n < 256) (ep : q'.p = q.p) (el : q'.log = q.log ++ [(("wipe" : Str), (n : Int), true)]) (ec : q'.ct = blankP q.ct (n * q.p.toNat) q.p.toNat) : Cln q' := by
  have hw : ¬ ("wipe" : Str) = "put" := by decide +kernel
  refine ⟨by rw [ep, el]; exact h.cl.snoc fun z => absurd z hw, fun x hx => ?_, by rw [el]; exact bd_snoc h.bd fun _ => ⟨Int.natCast_nonneg _, by show (n : Int) < 256; omega⟩⟩
  rw [ep, el, wrL_snoc] at hx
  unfold wrS at hx
  rw [if_pos rfl, if_neg hw] at hx
  obtain ⟨h1, h2⟩ := List.mem_filter.mp hx
  have h2 : x / q.p ≠ (n : Int) := of_decide_eq_true h2
  obtain ⟨a, b⟩ := h.ct x h1
  refine ⟨a, ?_⟩
  rw [ec, blankP_hi]
  · exact b
  · intro z
    refine h2 ?_
    have e1 : (((n * q.p.toNat : Nat) : Int)) = (n : Int) * q.p := by
      push_cast
      rw [Int.toNat_of_nonneg (by omega)]
    have := (page_at (n := n) (p := q.p) (x := x - (n : Int) * q.p) hp (by omega) (by omega)).1
    rw [show (n : Int) * q.p + (x - (n : Int) * q.p) = x by omega] at this
    exact this
theorem Spot.none {q : Pc} {k : Bk} {pg : Int} {n : Nat} (h : Wf q k) (sp : Spot q k pg n) : q.ct.getD pg.toNat none = none ∧ pg.toNat < q.ct.length := by
  have h0 := sp.f0
  have h1 := sp.f1
  refine ⟨?_, by have := h.ctl; have := sp.hi; have := sp.lo; omega⟩
  rw [sp.nat]
  exact h.clear n _ sp.lt (by omega) (by omega)
/-- a store as it always is -/
structure Core (kd : Kd) (t : Ts) (s : St) : Prop where
  wf : Wf s.q s.k
  hl : kd ≠ .sure → Hl s.q
  one : OneP s.q s.k
  tb : t.b = s.q.b ∧ t.p = s.q.p
  ti : 0 ≤ t.i ∧ t.i + 2 ≤ t.b
  tz : 1 ≤ t.z
  kn : kd ≠ .plain
  br : s.q.broken.length = s.q.b.toNat
  cl : s.q.clr.length = s.q.b.toNat
  ev : kd ≠ .store → Evn t.z s.q s.k
  cn : Cln s.q
theorem Core.pos {kd : Kd} {t : Ts} {s : St} (h : Core kd t s) : 1 ≤ s.q.p ∧ s.q.p ≤ 16 ∧ 2 ≤ s.q.b ∧ s.q.b ≤ 16 := by
  have h1 := h.wf.bk.p
  have h2 := h.wf.kp
  have h3 := h.wf.bk.b
  have h4 := h.wf.kb
  omega
theorem Core.ru {kd : Kd} {t : Ts} {s : St} (h : Core kd t s) (ru : Rl) : Core kd t { s with ru } := ⟨h.wf, h.hl, h.one, h.tb, h.ti, h.tz, h.kn, h.br, h.cl, h.ev, h.cn⟩
/-- sound enough: blocks are kept back -/
theorem Core.res {kd : Kd} {t : Ts} {s : St} (h : Core kd t s) (nw : wornQ t s.q = false) : 1 ≤ resvQ kd t s.q := by
  have h1 := h.ti
  have h2 : ¬ t.i < t.b - ((goodQ s.q).length : Int) := of_decide_eq_false nw
  have h3 := h.kn
  cases kd with
  | plain => exact absurd rfl h3
  | store => show (1 : Int) ≤ 1 + t.i; omega
  | even => show (1 : Int) ≤ 1 + t.i; omega
  | sure => show (1 : Int) ≤ 1 + t.i - (t.b - ((goodQ s.q).length : Int)); omega
theorem Core.gl {kd : Kd} {t : Ts} {s : St} (h : Core kd t s) : (goodQ s.q).length ≤ s.q.b.toNat ∧ (kd ≠ .sure → (goodQ s.q).length = s.q.b.toNat) := by
  refine ⟨Nat.le_trans (List.length_filter_le _ _) (by rw [List.length_range]; exact Nat.le_refl _), fun hk => ?_⟩
  rw [(h.hl hk).good, List.length_range]
/-- what is kept back, told by the good blocks -/
theorem Core.closed {kd : Kd} {t : Ts} {s : St} (h : Core kd t s) : ((goodQ s.q).length : Int) - resvQ kd t s.q = t.b - 1 - t.i := by
  have h1 := h.tb.1
  have h2 := h.pos
  have h3 := h.kn
  have h4 := h.gl.2
  cases kd with
  | plain => exact absurd rfl h3
  | store => have := h4 (fun z => by cases z); show _ - (1 + t.i) = _; omega
  | even => have := h4 (fun z => by cases z); show _ - (1 + t.i) = _; omega
  | sure => show ((goodQ s.q).length : Int) - (1 + t.i - (t.b - ((goodQ s.q).length : Int))) = _; omega
/-! the next spot is on a block that was cleared as often as the least of the free ones -/
theorem Spot.least {q : Pc} {k : Bk} {pg : Int} {n : Nat} (s : Spot q k pg n) (h0 : k.fil.getD n 0 = 0) : ∀ f ∈ goodQ q, k.fil.getD f 0 = 0 → q.clr.getD n 0 ≤ q.clr.getD f 0 := fun f hf hf0 => by
  have hn := s.next
  unfold nextQ at hn
  cases hp : partQ q k with
  | some m =>
    rw [hp] at hn
    injection hn with hn
    subst hn
    have := (partQ_some hp).2.1
    omega
  | none =>
    rw [hp] at hn
    dsimp only at hn
    have hm : (q.clr.getD f 0, (f : Int)) ∈ sortP (freeQ q k) := (sortP_perm _).mem_iff.mpr (List.mem_map.mpr ⟨f, List.mem_filter.mpr ⟨hf, decide_eq_true hf0⟩, rfl⟩)
    have hpw := sortP_pw (freeQ q k)
    cases hs : sortP (freeQ q k) with
    | nil => rw [hs] at hm; cases hm
    | cons e es =>
      rw [hs] at hn hm hpw
      have he : e ∈ sortP (freeQ q k) := by rw [hs]; exact List.mem_cons_self
      obtain ⟨m, rfl, _⟩ := freeQ_mem he
      have hn : (m : Int).toNat = n := by
        have hn : some ((m : Int).toNat) = some n := hn
        injection hn
      rw [Int.toNat_natCast] at hn
      subst hn
      rcases List.mem_cons.mp hm with z | z
      · have := congrArg Prod.fst z
        dsimp only at this
        omega
      · have := leP_iff.mp ((List.pairwise_cons.mp hpw).1 _ z)
        dsimp only at this
        omega
/-! a put that is done -/
theorem put_goodU {s : St} {to : Int} {m : Nat} {n v : Int} (sp : Spot s.q s.k to m) : goodQ (putS s to m n v).q = goodQ s.q := by
  unfold goodQ
  refine List.filter_congr fun i _ => ?_
  show (!(s.q.broken.set m (!true)).getD i false) = _
  rw [getD_set']
  split
  · rename_i z
    rw [z.1, sp.good]
    rfl
  · rfl
theorem resv_eq {kd : Kd} {t : Ts} {q q' : Pc} (e : goodQ q' = goodQ q) : resvQ kd t q' = resvQ kd t q := by
  cases kd <;> first | rfl | (show 1 + t.i - (t.b - ((goodQ q').length : Int)) = _; rw [e]; rfl)
theorem worn_eq {t : Ts} {q q' : Pc} (e : goodQ q' = goodQ q) : wornQ t q' = wornQ t q := by unfold wornQ; rw [e]
theorem least_eq {q q' : Pc} (e : goodQ q' = goodQ q) (ec : q'.clr = q.clr) : leastQ q' = leastQ q := by unfold leastQ clrsQ; rw [e, ec]
theorem put_core {kd : Kd} {t : Ts} {s : St} {to : Int} {m : Nat} {n v : Int} (h : Core kd t s) (sp : Spot s.q s.k to m) (hn : 0 ≤ n ∧ n ≤ 64) (hs : s.k.stamp + 1 < 10 ^ 40) : Core kd t (putS s to m n v) ∧ Dq kd t (putS s to m n v).q (putS s to m n v).k = Dq kd t s.q s.k - 1 := by
  have eg := put_goodU (n := n) (v := v) sp
  obtain ⟨c1, c2⟩ := clr_note (q' := (putS s to m n v).q) (nm := n) h.wf h.one sp eg rfl
  have efl : ∀ g, g ≠ m → (putS s to m n v).k.fil.getD g 0 = s.k.fil.getD g 0 := fun g hg => by
    show (s.k.note to n).fil.getD g 0 = _
    rw [note_fil, h.wf.kp, sp.blk, Int.toNat_natCast, getD_set', if_neg (fun z => hg z.1)]
  have hfm : (putS s to m n v).k.fil.getD m 0 ≠ 0 := by
    show (s.k.note to n).fil.getD m 0 ≠ 0
    have h1 := h.wf.bk.fil
    have h2 := h.wf.kb
    have h3 := sp.lt
    have h4 := sp.f0
    rw [note_fil, h.wf.kp, sp.blk, Int.toNat_natCast, getD_set', if_pos ⟨rfl, by omega⟩]
    omega
  refine ⟨⟨put_wf h.wf sp hn hs, fun hk => put_hl (h.hl hk), c2, h.tb, h.ti, h.tz, h.kn, (by show (s.q.broken.set _ _).length = _; rw [List.length_set]; exact h.br), h.cl, fun hk => ⟨?_, ?_⟩, h.cn.put rfl rfl rfl ⟨sp.lo, by
    have h1 := h.pos
    have h2 := Int.mul_le_mul h1.2.2.2 h1.2.1 (by omega) (by decide)
    have h3 := sp.hi
    omega⟩ (sp.none h.wf).2 (sp.none h.wf).1⟩, ?_⟩
  · rw [eg]
    exact (h.ev hk).gap
  · rw [eg]
    intro f hf hf0 g hg hg0
    have hfm2 : f ≠ m := fun z => hfm (by rw [← z]; exact hf0)
    rw [efl f hfm2] at hf0
    show s.q.clr.getD g 0 ≤ s.q.clr.getD f 0 + t.z - 1
    have tz := h.tz
    by_cases e : g = m
    · subst e
      rcases sp.kind.2 with ⟨z, _⟩ | ⟨z, _⟩
      · exact (h.ev hk).old f hf hf0 g hg (by omega)
      · have := sp.least z f hf hf0
        omega
    · rw [efl g e] at hg0
      exact (h.ev hk).old f hf hf0 g hg hg0
  · unfold Dq
    rw [resv_eq eg, show clrP (putS s to m n v).q (putS s to m n v).k = clrP s.q s.k - 1 from c1]
    show clrP s.q s.k - 1 - resvQ kd t s.q * s.q.p = _
    omega
/-! a deed that is not done: its block is a good one no more -/
theorem good_fail {q : Pc} {m : Nat} {e : Str × Int} (hm : m < q.broken.length) : goodQ (q.said m false e) = (goodQ q).filter fun i => decide (i ≠ m) := by
  unfold goodQ
  rw [List.filter_filter]
  refine List.filter_congr fun i _ => ?_
  show (!(q.broken.set m (!false)).getD i false) = _
  rw [getD_set hm]
  by_cases z : i = m
  · rw [if_pos z, decide_eq_false (fun y => y z)]; rfl
  · rw [if_neg z, decide_eq_true z, Bool.true_and]
theorem fail_len {q : Pc} {m : Nat} (hg : m ∈ goodQ q) : ((goodQ q).filter fun i => decide (i ≠ m)).length + 1 = (goodQ q).length := by
  have h1 := List.length_eq_countP_add_countP (l := goodQ q) (fun i => decide (i ≠ m))
  rw [List.countP_eq_length_filter, List.countP_eq_length_filter] at h1
  have h2 : (goodQ q).filter (fun i => decide (¬ decide (i ≠ m) = true)) = (goodQ q).filter (fun i => i == m) := List.filter_congr fun i _ => by
    show decide (¬ decide (i ≠ m) = true) = decide (i = m)
    rw [decide_eq_decide]
    simp
  rw [h2, List.filter_beq, List.Nodup.count goodQ_nodup, if_pos hg, List.length_replicate] at h1
  omega
theorem sum_drop {f : Nat → Int} {m : Nat} : ∀ {l : List Nat}, l.Nodup → m ∈ l → ((l.filter fun i => decide (i ≠ m)).map f).sum = (l.map f).sum - f m
  | [], _, h => by cases h
  | a :: l, hn, h => by
    rw [List.nodup_cons] at hn
    by_cases e : a = m
    · subst e
      have e1 : (a :: l).filter (fun i => decide (i ≠ a)) = l := by
        rw [List.filter_cons_of_neg (by simp)]
        exact List.filter_eq_self.mpr fun x hx => decide_eq_true fun z => hn.1 (by rw [← z]; exact hx)
      rw [e1, List.map_cons, List.sum_cons]
      omega
    · have e1 : (a :: l).filter (fun i => decide (i ≠ m)) = a :: l.filter (fun i => decide (i ≠ m)) := List.filter_cons_of_pos (by simpa using e)
      have h2 : m ∈ l := by
        rcases List.mem_cons.mp h with z | z
        · exact absurd z.symm e
        · exact z
      rw [e1, List.map_cons, List.sum_cons, List.map_cons, List.sum_cons, sum_drop hn.2 h2]
      omega
/-- what a failing leaves -/
structure Fld (kd : Kd) (t : Ts) (m : Nat) (x : Int) (s s' : St) : Prop where
  core : Core kd t s'
  good : goodQ s'.q = (goodQ s.q).filter fun i => decide (i ≠ m)
  d : Dq kd t s'.q s'.k = Dq kd t s.q s.k + x
  least : ∀ n ∈ goodQ s'.q, leastQ s.q ≤ leastQ s'.q
theorem fail_core {t : Ts} {s : St} {m : Nat} {e : Str × Int} (h : Core .sure t s) (hg : m ∈ goodQ s.q) : Fld .sure t m (s.k.fil.getD m 0) s { s with q := s.q.said m false e } := by
  have hb : m < s.q.broken.length := by rw [h.br]; exact List.mem_range.mp (List.mem_filter.mp hg).1
  have eg : goodQ (s.q.said m false e) = (goodQ s.q).filter fun i => decide (i ≠ m) := good_fail hb
  have sub : ∀ n, n ∈ goodQ (s.q.said m false e) → n ∈ goodQ s.q := fun n hn => by rw [eg] at hn; exact (List.mem_filter.mp hn).1
  have hev := h.ev (fun z => by cases z)
  refine ⟨⟨h.wf.said m false e, fun z => absurd rfl z, fun n hn m' hm' => h.one n (sub n hn) m' (sub m' hm'), h.tb, h.ti, h.tz, h.kn, (by show (s.q.broken.set _ _).length = _; rw [List.length_set]; exact h.br), h.cl, fun _ => ⟨fun n hn m' hm' => hev.gap n (sub n hn) m' (sub m' hm'), fun f hf h0 g hg2 h1 => hev.old f (sub f hf) h0 g (sub g hg2) h1⟩, h.cn.fail rfl rfl rfl⟩, eg, ?_, fun n hn => ?_⟩
  · unfold Dq clrP
    rw [show goodQ ({ s with q := s.q.said m false e } : St).q = (goodQ s.q).filter fun i => decide (i ≠ m) from eg]
    show (((goodQ s.q).filter fun i => decide (i ≠ m)).map fun n => s.q.p - s.k.fil.getD n 0).sum - (1 + t.i - (t.b - ((goodQ (s.q.said m false e)).length : Int))) * s.q.p = ((goodQ s.q).map fun n => s.q.p - s.k.fil.getD n 0).sum - (1 + t.i - (t.b - ((goodQ s.q).length : Int))) * s.q.p + s.k.fil.getD m 0
    rw [sum_drop goodQ_nodup hg, eg]
    have := fail_len hg
    have e2 : ((((goodQ s.q).filter fun i => decide (i ≠ m)).length : Nat) : Int) = ((goodQ s.q).length : Int) - 1 := by omega
    rw [e2, show (1 + t.i - (t.b - (((goodQ s.q).length : Int) - 1))) = (1 + t.i - (t.b - ((goodQ s.q).length : Int))) - 1 by omega, Int.sub_mul, Int.one_mul]
    omega
  · obtain ⟨⟨m1, hm1, e1⟩, _⟩ := least_of hn
    have := (least_of (sub n hn)).2 m1 (sub m1 hm1)
    rw [← e1]
    exact this
/-! ### deeds, told without the puts that failed -/
def nfp (d : Str × Int × Bool) : Bool := d.2.2 || decide (d.1 = ("wipe" : Str))
structure Dx (kd : Kd) (s s' : St) (e : List (Str × Int × Bool)) : Prop where
  ex : ∃ ds, Dd s s' ds ∧ ds.filter nfp = e ∧ ds.length + (goodQ s'.q).length ≤ e.length + (goodQ s.q).length ∧ (kd ≠ .sure → ds = e)
theorem Dx.refl {kd : Kd} {s : St} : Dx kd s s [] := ⟨[], Dd.refl, rfl, Nat.le_refl _, fun _ => rfl⟩
theorem Dx.trans {kd : Kd} {s s1 s2 : St} {d e : List (Str × Int × Bool)} (a : Dx kd s s1 d) (b : Dx kd s1 s2 e) : Dx kd s s2 (d ++ e) := by
  obtain ⟨ds, a1, a2, a3, a4⟩ := a.ex
  obtain ⟨es, b1, b2, b3, b4⟩ := b.ex
  exact ⟨ds ++ es, a1.trans b1, by rw [List.filter_append, a2, b2], by rw [List.length_append, List.length_append]; omega, fun h => by rw [a4 h, b4 h]⟩
theorem Dx.of {kd : Kd} {s s' : St} {e : List (Str × Int × Bool)} (h : Dd s s' e) (he : ∀ d ∈ e, nfp d = true) (hg : (goodQ s'.q).length ≤ (goodQ s.q).length) : Dx kd s s' e :=
  ⟨e, h, List.filter_eq_self.mpr he, by omega, fun _ => rfl⟩
def wipeB (n : Int) (b : Bool) : Str × Int × Bool := ("wipe", n, b)
theorem nfp_wipe {n : Int} {b : Bool} : nfp (wipeB n b) = true := by
  unfold nfp wipeB
  dsimp only
  rw [show decide (("wipe" : Str) = "wipe") = true from decide_eq_true rfl, Bool.or_true]
theorem nfp_fail {pg : Int} : nfp ("put", pg, false) = false := by
  show (false || decide (("put" : Str) = "wipe")) = false
  decide +kernel
/-! ### putting down, on another spot where a block fails -/
structure Fls (kd : Kd) (t : Ts) (s s0 : St) : Prop where
  k : s0.k = s.k
  ct : s0.q.ct = s.q.ct
  clr : s0.q.clr = s.q.clr
  pp : s0.pp = s.pp
  ru : s0.ru = s.ru
  core : Core kd t s0
  d : Dq kd t s.q s.k ≤ Dq kd t s0.q s0.k
  sub : ∀ n ∈ goodQ s0.q, n ∈ goodQ s.q
  full : ∀ n ∈ goodQ s.q, s.k.fil.getD n 0 = s.q.p → n ∈ goodQ s0.q
  dx : Dx kd s s0 []
theorem Fls.refl {kd : Kd} {t : Ts} {s : St} (h : Core kd t s) : Fls kd t s s := ⟨rfl, rfl, rfl, rfl, rfl, h, Int.le_refl _, fun _ h => h, fun _ h _ => h, Dx.refl⟩
theorem Fls.p {kd : Kd} {t : Ts} {s s0 : St} (h : Core kd t s) (f : Fls kd t s s0) : s0.q.p = s.q.p ∧ s0.q.b = s.q.b := ⟨f.core.tb.2.symm.trans h.tb.2, f.core.tb.1.symm.trans h.tb.1⟩
theorem Fls.trans {kd : Kd} {t : Ts} {s s1 s2 : St} (h : Core kd t s) (a : Fls kd t s s1) (b : Fls kd t s1 s2) : Fls kd t s s2 :=
  ⟨b.k.trans a.k, b.ct.trans a.ct, b.clr.trans a.clr, b.pp.trans a.pp, b.ru.trans a.ru, b.core, Int.le_trans a.d b.d, fun n hn => a.sub n (b.sub n hn), fun n hn hf => b.full n (a.full n hn hf) (by rw [a.k, (a.p h).1]; exact hf), a.dx.trans b.dx⟩
theorem Fls.least {kd : Kd} {t : Ts} {s s0 : St} (f : Fls kd t s s0) {n : Nat} (hn : n ∈ goodQ s0.q) : leastQ s.q ≤ leastQ s0.q := by
  obtain ⟨⟨m, hm, e⟩, _⟩ := least_of hn
  rw [← e, f.clr]
  exact (least_of (f.sub n hn)).2 m (f.sub m hm)
theorem setDown_u {kd : Kd} {t : Ts} {s : St} {n v : Int} (h : Core kd t s) (nw : wornQ t s.q = false) (hd : 0 < Dq kd t s.q s.k + s.q.p) :
    (s.q.dark = true ∧ setDown s n v = (.error .dark, s)) ∨ (∃ pg m, Spot s.q s.k pg m ∧ setDown s n v = (.ok pg, putS s pg m n v)) ∨ (∃ (pg : Int) (m : Nat), kd = .sure ∧ setDown s n v = (.error (.failed (m : Int)), { s with q := s.q.said m false ("put", pg) }) ∧ m ∈ goodQ s.q ∧ s.k.fil.getD m 0 < s.q.p ∧ 0 ≤ s.k.fil.getD m 0) := by
  obtain ⟨p1, p2, _, _⟩ := h.pos
  have hr := h.res nw
  have hc : 0 < clrP s.q s.k := by
    unfold Dq at hd
    have := Int.mul_le_mul_of_nonneg_right hr (show 0 ≤ s.q.p by omega)
    omega
  rcases setDown_cases (s := s) (n := n) (v := v) p1 with ⟨e, _⟩ | ⟨pg, m, sp, _, ⟨e, e2⟩ | ⟨_, _, e⟩ | ⟨_, hw, e⟩⟩
  · obtain ⟨_, _, e', _⟩ := spot_ex h.wf h.one hc
    rw [e'] at e; cases e
  · exact .inl ⟨e, e2⟩
  · exact .inr (.inl ⟨pg, m, sp, e⟩)
  · refine .inr (.inr ⟨pg, m, ?_, e, sp.kind.1, sp.f1, sp.f0⟩)
    by_cases hk : kd = .sure
    · exact hk
    · rw [(h.hl hk).well] at hw
      cases hw
/-- one failing put -/
theorem fail_put {t : Ts} {s : St} {pg : Int} {m : Nat} (h : Core .sure t s) (hm : m ∈ goodQ s.q) (hf : s.k.fil.getD m 0 < s.q.p) (hf0 : 0 ≤ s.k.fil.getD m 0) : Fls .sure t s { s with q := s.q.said m false ("put", pg) } ∧ (goodQ (s.q.said m false ("put", pg))).length + 1 = (goodQ s.q).length := by
  have F := fail_core (e := ("put", pg)) h hm
  have eg : goodQ (s.q.said m false ("put", pg)) = (goodQ s.q).filter fun i => decide (i ≠ m) := F.good
  have el : (goodQ (s.q.said m false ("put", pg))).length + 1 = (goodQ s.q).length := by rw [eg]; exact fail_len hm
  refine ⟨⟨rfl, rfl, rfl, rfl, rfl, F.core, by have := F.d; omega, fun n hn => ?_, fun n hn hfu => ?_, ⟨[("put", pg, false)], ⟨rfl, rfl⟩, ?_, ?_, fun z => absurd rfl z⟩⟩, el⟩
  · have hn : n ∈ goodQ (s.q.said m false ("put", pg)) := hn
    rw [eg] at hn
    exact (List.mem_filter.mp hn).1
  · show n ∈ goodQ (s.q.said m false ("put", pg))
    rw [eg]
    exact List.mem_filter.mpr ⟨hn, decide_eq_true fun z => by rw [z] at hfu; omega⟩
  · rw [List.filter_cons_of_neg (by rw [nfp_fail]; decide)]
    rfl
  · show 1 + (goodQ (s.q.said m false ("put", pg))).length ≤ 0 + _
    omega
def LayR (kd : Kd) (t : Ts) (s : St) (n v : Int) (r : Except Rf Int × St) : Prop :=
  (∃ s0 pg m, Fls kd t s s0 ∧ wornQ t s0.q = false ∧ Spot s0.q s0.k pg m ∧ r = (.ok pg, putS s0 pg m n v)) ∨ (∃ s0, Fls kd t s s0 ∧ wornQ t s0.q = false ∧ s0.q.dark = true ∧ r = (.error .dark, s0)) ∨ (∃ s0, Fls kd t s s0 ∧ kd = .sure ∧ wornQ t s0.q = true ∧ r = (.error .wornout, s0))
theorem laySure_u {t : Ts} {n v : Int} : ∀ (f : Nat) (s : St), (goodQ s.q).length < f → Core .sure t s → wornQ t s.q = false → 0 < Dq .sure t s.q s.k + s.q.p → LayR .sure t s n v (laySure t f s n v)
  | 0, s, h, _, _, _ => by cases h
  | f + 1, s, hf, h, nw, hd => by
    rcases setDown_u (n := n) (v := v) h nw hd with ⟨e, e2⟩ | ⟨pg, m, sp, e⟩ | ⟨pg, m, _, e, hm, hf1, hf0⟩
    · have : laySure t (f + 1) s n v = (.error .dark, s) := by unfold laySure; rw [e2]
      rw [this]
      exact .inr (.inl ⟨s, Fls.refl h, nw, e, rfl⟩)
    · have : laySure t (f + 1) s n v = (.ok pg, putS s pg m n v) := by unfold laySure; rw [e]
      rw [this]
      exact .inl ⟨s, pg, m, Fls.refl h, nw, sp, rfl⟩
    · obtain ⟨F, el⟩ := fail_put (pg := pg) h hm hf1 hf0
      cases hw : wornQ t (s.q.said m false ("put", pg)) with
      | true =>
        have : laySure t (f + 1) s n v = (.error .wornout, { s with q := s.q.said m false ("put", pg) }) := by
          unfold laySure
          rw [e]
          show (if wornQ t (s.q.said m false ("put", pg)) = true then _ else _) = _
          rw [if_pos hw]
        rw [this]
        exact .inr (.inr ⟨_, F, rfl, hw, rfl⟩)
      | false =>
        have : laySure t (f + 1) s n v = laySure t f { s with q := s.q.said m false ("put", pg) } n v := by
          conv => lhs; unfold laySure
          rw [e]
          show (if wornQ t (s.q.said m false ("put", pg)) = true then _ else _) = _
          rw [if_neg (by rw [hw]; decide)]
        rw [this]
        rcases laySure_u (n := n) (v := v) f { s with q := s.q.said m false ("put", pg) } (by show (goodQ (s.q.said m false ("put", pg))).length < f; omega) F.core hw (by have := F.d; show 0 < _ + s.q.p; omega) with ⟨s0, pg2, m2, a, b, c, d⟩ | ⟨s0, a, b, c, d⟩ | ⟨s0, a, b, c, d⟩
        · exact .inl ⟨s0, pg2, m2, F.trans h a, b, c, d⟩
        · exact .inr (.inl ⟨s0, F.trans h a, b, c, d⟩)
        · exact .inr (.inr ⟨s0, F.trans h a, b, c, d⟩)
theorem lay_u {kd : Kd} {t : Ts} {s : St} {n v : Int} (h : Core kd t s) (nw : wornQ t s.q = false) (hd : 0 < Dq kd t s.q s.k + s.q.p) : LayR kd t s n v (layQ kd t s n v) := by
  by_cases hk : kd = .sure
  · subst hk
    have := h.gl.1
    have := h.pos
    exact laySure_u 17 s (by omega) h nw hd
  · rw [layQ_ne hk]
    rcases setDown_u (n := n) (v := v) h nw hd with ⟨e, e2⟩ | ⟨pg, m, sp, e⟩ | ⟨_, _, z, _⟩
    · exact .inr (.inl ⟨s, Fls.refl h, nw, e, e2⟩)
    · exact .inl ⟨s, pg, m, Fls.refl h, nw, sp, e⟩
    · exact absurd z hk
theorem Fls.val {kd : Kd} {t : Ts} {s s0 : St} (f : Fls kd t s s0) (n : Int) : valQ s0 n = valQ s n := by unfold valQ; rw [f.k, f.ct]
theorem Fls.cont {kd : Kd} {t : Ts} {s s0 : St} (f : Fls kd t s s0) : Cont s s0 := ⟨fun n => by rw [f.k], fun n _ => f.val n⟩
/-- a block that may be cleared by how it has worn -/
def Spd (kd : Kd) (t : Ts) (q : Pc) (n : Nat) : Prop := kd = .store ∨ q.clr.getD n 0 < leastQ q + t.z
/-- a full block's live pages go elsewhere -/
structure Mvu (kd : Kd) (t : Ts) (n : Nat) (s : St) : Prop where
  core : Core kd t s
  nw : wornQ t s.q = false
  gn : n ∈ goodQ s.q
  fu : s.k.fil.getD n 0 = s.q.p
  lv : s.k.live.getD n 0 ≤ Dq kd t s.q s.k + s.q.p
  sp : Spd kd t s.q n
theorem Mvu.lt {kd : Kd} {t : Ts} {n : Nat} {s : St} (h : Mvu kd t n s) : n < s.q.b.toNat := List.mem_range.mp (List.mem_filter.mp h.gn).1
theorem Mvu.ru {kd : Kd} {t : Ts} {n : Nat} {s : St} (h : Mvu kd t n s) (ru : Rl) : Mvu kd t n { s with ru } := ⟨h.core.ru ru, h.nw, h.gn, h.fu, h.lv, h.sp⟩
theorem Mvu.fls {kd : Kd} {t : Ts} {n : Nat} {s s0 : St} (h : Mvu kd t n s) (f : Fls kd t s s0) (nw : wornQ t s0.q = false) : Mvu kd t n s0 := by
  have hg := f.full n h.gn h.fu
  refine ⟨f.core, nw, hg, by rw [f.k, (f.p h.core).1]; exact h.fu, ?_, ?_⟩
  · have := f.d
    have := h.lv
    rw [f.k, (f.p h.core).1] at *
    omega
  · rcases h.sp with z | z
    · exact .inl z
    · have := f.least hg
      rw [← f.clr] at z
      exact .inr (by omega)
/-- what stays of the other full blocks -/
def Oth (n : Nat) (s s' : St) : Prop := ∀ g ∈ goodQ s.q, g ≠ n → s.k.fil.getD g 0 = s.q.p → g ∈ goodQ s'.q ∧ s'.k.fil.getD g 0 = s.q.p ∧ s'.k.live.getD g 0 = s.k.live.getD g 0 ∧ s'.q.clr.getD g 0 = s.q.clr.getD g 0
theorem Oth.refl {n : Nat} {s : St} : Oth n s s := fun _ h _ e => ⟨h, e, rfl, rfl⟩
theorem Oth.trans {n : Nat} {s s1 s2 : St} (ep : s1.q.p = s.q.p) (a : Oth n s s1) (b : Oth n s1 s2) : Oth n s s2 := fun g hg hn hf => by
  obtain ⟨a1, a2, a3, a4⟩ := a g hg hn hf
  obtain ⟨b1, b2, b3, b4⟩ := b g a1 hn (by rw [ep]; exact a2)
  exact ⟨b1, by rw [b2, ep], b3.trans a3, b4.trans a4⟩
theorem Fls.oth {kd : Kd} {t : Ts} {s s0 : St} (f : Fls kd t s s0) (n : Nat) : Oth n s s0 := fun g hg _ hf => ⟨f.full g hg hf, by rw [f.k]; exact hf, by rw [f.k], by rw [f.clr]⟩
theorem Mvu.put {kd : Kd} {t : Ts} {n m : Nat} {s : St} {pg nm to v : Int} (h : Mvu kd t n s) (sp : Spot s.q s.k to m) (hg : getI s.k.wh nm = some pg) (hb : pg / s.k.p = (n : Int)) (hs : s.k.stamp + 1 < 10 ^ 40) : Mvu kd t n (putS s to m nm v) ∧ (putS s to m nm v).k.live.getD n 0 = s.k.live.getD n 0 - 1 ∧ Dq kd t (putS s to m nm v).q (putS s to m nm v).k = Dq kd t s.q s.k - 1 ∧ Oth n s (putS s to m nm v) := by
  have hn := h.core.wf.rng _ (getI_mem hg)
  obtain ⟨c1, c2⟩ := put_core (v := v) h.core sp hn hs
  have hlt := h.lt
  have hmf : ∀ g, s.k.fil.getD g 0 = s.q.p → g ≠ m := fun g hf z => by have := sp.f1; rw [z] at hf; omega
  have hl := h.core.wf.bk.live
  have hkb := h.core.wf.kb
  have hkp := h.core.wf.kp
  have hblk : (to / s.k.p).toNat = m := by rw [hkp, sp.blk, Int.toNat_natCast]
  have eg := put_goodU (n := nm) (v := v) sp
  have elv : ∀ g, g ≠ m → (putS s to m nm v).k.live.getD g 0 = if g = n then s.k.live.getD g 0 - 1 else s.k.live.getD g 0 := fun g hgm => by
    show ((s.k.drop nm).live.set (to / s.k.p).toNat _).getD g 0 = _
    rw [hblk, getD_set', if_neg (fun z => hgm z.1), drop_lv, hg]
    dsimp only
    rw [getD_set', hb, Int.toNat_natCast]
    by_cases z : g = n
    · rw [if_pos ⟨z, by omega⟩, if_pos z, z]
    · rw [if_neg (fun y => z y.1), if_neg z]
  have efl : ∀ g, g ≠ m → (putS s to m nm v).k.fil.getD g 0 = s.k.fil.getD g 0 := fun g hgm => by
    show (s.k.note to nm).fil.getD g 0 = _
    rw [note_fil, hblk, getD_set', if_neg (fun z => hgm z.1)]
  have e1 : (putS s to m nm v).k.live.getD n 0 = s.k.live.getD n 0 - 1 := by rw [elv n (hmf n h.fu), if_pos rfl]
  refine ⟨⟨c1, by rw [worn_eq eg]; exact h.nw, by rw [eg]; exact h.gn, by rw [efl n (hmf n h.fu)]; exact h.fu, ?_, ?_⟩, e1, c2, fun g hgg hgn hf => ⟨by rw [eg]; exact hgg, by rw [efl g (hmf g hf)]; exact hf, by rw [elv g (hmf g hf), if_neg hgn], rfl⟩⟩
  · rw [e1, c2]
    have := h.lv
    show _ ≤ _ + s.q.p
    omega
  · rcases h.sp with z | z
    · exact .inl z
    · refine .inr ?_
      rw [least_eq eg rfl]
      exact z
/-! ### a moving, a clearing, a making of room -/
theorem Fls.gEq {kd : Kd} {t : Ts} {s s0 : St} (F : Fls kd t s s0) (h : Core kd t s) (hk : kd ≠ .sure) : goodQ s0.q = goodQ s.q := by rw [(F.core.hl hk).good, (h.hl hk).good, (F.p h).2]
theorem Fls.dEq {kd : Kd} {t : Ts} {s s0 : St} (F : Fls kd t s s0) (h : Core kd t s) (hk : kd ≠ .sure) : Dq kd t s0.q s0.k = Dq kd t s.q s.k := by
  have eg := F.gEq h hk
  unfold Dq clrP
  rw [resv_eq (kd := kd) (t := t) eg, eg, F.k, (F.p h).1]
theorem Fls.next {kd : Kd} {t : Ts} {s s0 : St} (F : Fls kd t s s0) (h : Core kd t s) (hk : kd ≠ .sure) : nextQ s0.q s0.k = nextQ s.q s.k := by
  have eg := F.gEq h hk
  unfold nextQ partQ freeQ
  rw [eg, F.k, (F.p h).1, F.clr]
theorem part_next {q : Pc} {k : Bk} {n : Nat} (h1 : OneP q k) (hg : n ∈ goodQ q) (hp : isPt q k n) : nextQ q k = some n := by
  have e : partQ q k = some n := by
    cases hc : partQ q k with
    | none => exact absurd hp (partQ_none.mp hc n hg)
    | some m =>
      obtain ⟨a, b⟩ := partQ_some hc
      rw [h1 m a n hg b hp]
  unfold nextQ
  rw [e]
theorem moved_u {kd : Kd} {t : Ts} {n : Nat} : ∀ {L : List (Int × Int)} {s : St}, Mvu kd t n s → (∀ e ∈ L, getI s.k.wh e.2 = some e.1 ∧ e.1 / s.k.p = (n : Int)) → (L.map (·.2)).Nodup → (L.length : Int) ≤ s.k.live.getD n 0 → s.k.stamp + (L.length : Int) < 10 ^ 30 →
    Cont s (movedQ kd t L s).2 ∧ (movedQ kd t L s).2.pp = s.pp ∧ (movedQ kd t L s).2.ru = s.ru ∧ (movedQ kd t L s).2.q.clr = s.q.clr ∧ (∀ g ∈ goodQ (movedQ kd t L s).2.q, g ∈ goodQ s.q) ∧ Core kd t (movedQ kd t L s).2 ∧ ∃ tos : List Int, Dx kd s (movedQ kd t L s).2 (tos.map putD) ∧ (movedQ kd t L s).2.k.stamp = s.k.stamp + (tos.length : Int) ∧ tos.length ≤ L.length ∧
      ((∃ ms, (movedQ kd t L s).1 = .ok ms ∧ ms.map (·.to) = tos ∧ ms.map (fun m => (m.pg, m.nm)) = L ∧ Mvu kd t n (movedQ kd t L s).2 ∧ Oth n s (movedQ kd t L s).2 ∧ (movedQ kd t L s).2.k.live.getD n 0 = s.k.live.getD n 0 - (L.length : Int) ∧ Dq kd t s.q s.k - (L.length : Int) ≤ Dq kd t (movedQ kd t L s).2.q (movedQ kd t L s).2.k ∧ (kd ≠ .sure → Dq kd t (movedQ kd t L s).2.q (movedQ kd t L s).2.k = Dq kd t s.q s.k - (L.length : Int)) ∧ (kd ≠ .sure → ∀ f : Nat, (L ≠ [] → nextQ s.q s.k = some f) → s.k.fil.getD f 0 + (L.length : Int) ≤ s.q.p → ∀ m ∈ ms, m.to / s.q.p = (f : Int))) ∨
       ((movedQ kd t L s).1 = .error .dark ∧ (movedQ kd t L s).2.q.dark = true ∧ Mvu kd t n (movedQ kd t L s).2) ∨ (kd = .sure ∧ (movedQ kd t L s).1 = .error .wornout ∧ wornQ t (movedQ kd t L s).2.q = true))
  | [], s, h, _, _, _, _ => ⟨Cont.refl, rfl, rfl, rfl, fun _ h => h, h.core, [], Dx.refl, by show s.k.stamp = s.k.stamp + 0; omega, Nat.le_refl _, .inl ⟨[], rfl, rfl, rfl, h, Oth.refl, by show _ = _ - (0 : Int); exact (Int.sub_zero _).symm, by show _ - (0 : Int) ≤ _; rw [Int.sub_zero]; exact Int.le_refl _, fun _ => by show _ = _ - (0 : Int); exact (Int.sub_zero _).symm, fun _ _ _ _ m hm => by cases hm⟩⟩
  | (pg, nm) :: L, s, h, hL, hnd, hll, hst => by
    rw [moved_cons]
    obtain ⟨hg, hb⟩ := hL _ List.mem_cons_self
    rw [List.map_cons, List.nodup_cons] at hnd
    rw [List.length_cons] at hll hst
    push_cast at hll hst
    split
    · rename_i hd
      exact ⟨Cont.refl, rfl, rfl, rfl, fun _ h => h, h.core, [], Dx.refl, by show s.k.stamp = s.k.stamp + 0; omega, Nat.zero_le _, .inr (.inl ⟨rfl, hd.2, h⟩)⟩
    · have hlv := h.lv
      rcases lay_u (n := nm) (v := valueQ s pg nm) h.core h.nw (by omega) with ⟨s0, to, m, F, nw, sp, e⟩ | ⟨s0, F, nw, hdk, e⟩ | ⟨s0, F, hk, hw, e⟩
      · rw [e]
        dsimp only
        have h0 := h.fls F nw
        have hg0 : getI s0.k.wh nm = some pg := by rw [F.k]; exact hg
        have hb0 : pg / s0.k.p = (n : Int) := by rw [F.k]; exact hb
        obtain ⟨h1, h2, h3, h3b⟩ := h0.put (v := valueQ s pg nm) sp hg0 hb0 (by rw [F.k]; omega)
        have c1 : Cont s (putS s0 to m nm (valueQ s pg nm)) := ⟨fun x => by
          show (getI (s0.k.note to nm).wh x).isSome = _
          rw [note_wh, F.k]
          split
          · rename_i ex
            rw [ex, hg]
            rfl
          · rfl, fun x hx => by
          rw [put_val h0.core.wf sp, F.val]
          split
          · rename_i ex
            rw [ex] at hx ⊢
            unfold valQ valueQ
            rw [hg, if_neg hx]
            rfl
          · rfl⟩
        have eg := put_goodU (n := nm) (v := valueQ s pg nm) sp
        obtain ⟨g2, g3, g4, g4b, g4c, g4d, tos, g5, g6, g7, g8⟩ := moved_u (L := L) (s := putS s0 to m nm (valueQ s pg nm)) h1 (fun e he => by
          have := hL e (List.mem_cons_of_mem _ he)
          refine ⟨?_, ?_⟩
          · show getI (s0.k.note to nm).wh e.2 = _
            rw [note_wh, if_neg (fun z => hnd.1 (List.mem_map.mpr ⟨e, he, z⟩)), F.k]
            exact this.1
          · show e.1 / (s0.k.note to nm).p = _
            rw [show (s0.k.note to nm).p = s0.k.p from drop_p, F.k]
            exact this.2) hnd.2 (by rw [h2, F.k]; omega) (by show (s0.k.note to nm).stamp + _ < _; rw [note_st, F.k]; omega)
        have dx1 : Dx kd s (putS s0 to m nm (valueQ s pg nm)) ([] ++ [putD to]) := F.dx.trans (Dx.of put_dd (fun d hd => by rw [List.mem_singleton.mp hd]; rfl) (by rw [eg]; exact Nat.le_refl _))
        have dh := F.d
        rw [bindM_2]
        refine ⟨c1.trans g2, g3.trans F.pp, g4.trans F.ru, g4b.trans F.clr, fun g hgg => F.sub g (by rw [← eg]; exact g4c g hgg), g4d, to :: tos, dx1.trans g5, ?_, by rw [List.length_cons, List.length_cons]; omega, ?_⟩
        · rw [g6]
          show (s0.k.note to nm).stamp + _ = _
          rw [note_st, F.k, List.length_cons]
          push_cast
          omega
        rcases g8 with ⟨ms, e1, e2, e3, e4, e5, e6, e7, e7b, e7c⟩ | ⟨e1, e2, e3⟩ | ⟨e1, e2, e3⟩
        · left
          refine ⟨⟨nm, pg, to⟩ :: ms, ?_, by rw [List.map_cons, e2], by rw [List.map_cons, e3], e4, Oth.trans (s1 := putS s0 to m nm (valueQ s pg nm)) (F.p h.core).1 (Oth.trans (F.p h.core).1 (F.oth n) h3b) e5, ?_, ?_, fun hk => ?_, fun hk f hnx hfl x hx => ?_⟩
          · generalize movedQ kd t L (putS s0 to m nm (valueQ s pg nm)) = x at e1
            obtain ⟨o, s'⟩ := x
            have e1 : o = .ok ms := e1
            subst e1
            rfl
          · rw [e6, h2, F.k, List.length_cons]
            push_cast
            omega
          · rw [List.length_cons]
            push_cast
            rw [h3] at e7
            omega
          · rw [e7b hk, h3, F.dEq h.core hk, List.length_cons]
            push_cast
            omega
          · have hmf : m = f := by
              have h1 := sp.next
              rw [F.next h.core hk, hnx (by simp)] at h1
              injection h1 with h1
              exact h1.symm
            subst hmf
            have ep := (F.p h.core).1
            rcases List.mem_cons.mp hx with rfl | hx
            · show to / s.q.p = _
              rw [← ep]; exact sp.blk
            · rw [List.length_cons] at hfl
              push_cast at hfl
              have hfn : (putS s0 to m nm (valueQ s pg nm)).k.fil.getD m 0 = s.k.fil.getD m 0 + 1 := by
                show (s0.k.note to nm).fil.getD m 0 = _
                have hkp := h0.core.wf.kp
                rw [note_fil, hkp, sp.blk, Int.toNat_natCast, getD_set (by have := h0.core.wf.bk.fil; have := h0.core.wf.kb; have := sp.lt; omega), if_pos rfl, F.k]
              have hpp : (putS s0 to m nm (valueQ s pg nm)).q.p = s.q.p := ep
              have := e7c hk m (fun hne => ?_) (by rw [hfn, hpp]; omega) x hx
              · rw [hpp] at this
                exact this
              · have hl1 : 1 ≤ L.length := List.length_pos_iff.mpr hne
                refine part_next h1.core.one ?_ ⟨?_, ?_⟩
                · rw [eg]
                  exact List.mem_filter.mpr ⟨List.mem_range.mpr sp.lt, by rw [sp.good]; rfl⟩
                · rw [hfn]
                  have := sp.f0
                  rw [F.k] at this
                  omega
                · rw [hfn, hpp]
                  omega
        · right; left
          refine ⟨?_, e2, e3⟩
          generalize movedQ kd t L (putS s0 to m nm (valueQ s pg nm)) = x at e1
          obtain ⟨o, s'⟩ := x
          have e1 : o = .error .dark := e1
          subst e1
          rfl
        · right; right
          refine ⟨e1, ?_, e3⟩
          generalize movedQ kd t L (putS s0 to m nm (valueQ s pg nm)) = x at e2
          obtain ⟨o, s'⟩ := x
          have e2 : o = .error .wornout := e2
          subst e2
          rfl
      · rw [e]
        exact ⟨F.cont, F.pp, F.ru, F.clr, F.sub, F.core, [], F.dx, by rw [F.k]; show s.k.stamp = s.k.stamp + 0; omega, Nat.zero_le _, .inr (.inl ⟨rfl, hdk, h.fls F nw⟩)⟩
      · rw [e]
        exact ⟨F.cont, F.pp, F.ru, F.clr, F.sub, F.core, [], F.dx, by rw [F.k]; show s.k.stamp = s.k.stamp + 0; omega, Nat.zero_le _, .inr (.inr ⟨hk, rfl, hw⟩)⟩
/-! a store between two askings -/
structure Gs (kd : Kd) (t : Ts) (s : St) : Prop where
  core : Core kd t s
  nw : wornQ t s.q = false
  lo : -s.q.p ≤ Dq kd t s.q s.k
  fl : Dq kd t s.q s.k < 0 → ∃ n ∈ goodQ s.q, s.k.fil.getD n 0 = s.q.p ∧ s.k.live.getD n 0 ≤ Dq kd t s.q s.k + s.q.p ∧ Spd kd t s.q n
theorem Mvu.gs {kd : Kd} {t : Ts} {n : Nat} {s : St} (h : Mvu kd t n s) : Gs kd t s := ⟨h.core, h.nw, by have := h.lv; have := (h.core.wf.live_le h.lt).1; omega, fun _ => ⟨n, h.gn, h.fu, h.lv, h.sp⟩⟩
theorem Gs.of {kd : Kd} {t : Ts} {s : St} (h : Core kd t s) (nw : wornQ t s.q = false) (hd : 0 ≤ Dq kd t s.q s.k) : Gs kd t s := ⟨h, nw, by have := h.pos; omega, fun z => by omega⟩
theorem Core.ready {kd : Kd} {t : Ts} {s : St} (h : Core kd t s) : readyQ kd t s.q s.k = decide (0 < Dq kd t s.q s.k) := by
  rw [ready_clr h.wf h.one]
  unfold Dq
  rw [decide_eq_decide]
  omega
theorem Core.space {kd : Kd} {t : Ts} {s : St} (h : Core kd t s) (hl : -s.q.p ≤ Dq kd t s.q s.k) : (0 ≤ Dq kd t s.q s.k → spaceQ kd t s.q s.k = s.q.p) ∧ (Dq kd t s.q s.k < 0 → spaceQ kd t s.q s.k = Dq kd t s.q s.k + s.q.p) := by
  have e : (resvQ kd t s.q - 1) * s.q.p = resvQ kd t s.q * s.q.p - s.q.p := by rw [Int.sub_mul, Int.one_mul]
  unfold Dq at hl ⊢
  obtain ⟨a, b⟩ := space_clr (kd := kd) (t := t) h.wf h.one h.tb.2 (by rw [e]; omega)
  rw [e] at b
  exact ⟨fun z => a (by omega), fun z => by rw [b (by omega)]; omega⟩
theorem optsQ_spd {kd : Kd} {t : Ts} {q : Pc} {k : Bk} {n : Nat} (h : tallyQ q k n ∈ optsQ kd t q k) : tallyQ q k n ∈ fullQ kd t q k ∧ k.live.getD n 0 < t.p ∧ Spd kd t q n := by
  cases kd with
  | plain => cases h
  | store => exact ⟨(List.mem_filter.mp h).1, of_decide_eq_true (List.mem_filter.mp h).2, .inl rfl⟩
  | even =>
    obtain ⟨h1, h2⟩ := List.mem_filter.mp h
    obtain ⟨h3, h4⟩ := List.mem_filter.mp h1
    exact ⟨h3, of_decide_eq_true h2, .inr (of_decide_eq_true h4)⟩
  | sure =>
    obtain ⟨h1, h2⟩ := List.mem_filter.mp h
    obtain ⟨h3, h4⟩ := List.mem_filter.mp h1
    exact ⟨h3, of_decide_eq_true h2, .inr (of_decide_eq_true h4)⟩
theorem optsQ_in {kd : Kd} {t : Ts} {q : Pc} {k : Bk} {n : Nat} (hk : kd ≠ .plain) (h : tallyQ q k n ∈ fullQ kd t q k) (hl : k.live.getD n 0 < t.p) (hs : Spd kd t q n) : tallyQ q k n ∈ optsQ kd t q k := by
  cases kd with
  | plain => exact absurd rfl hk
  | store => exact List.mem_filter.mpr ⟨h, decide_eq_true hl⟩
  | even =>
    rcases hs with z | z
    · cases z
    · exact List.mem_filter.mpr ⟨List.mem_filter.mpr ⟨h, decide_eq_true z⟩, decide_eq_true hl⟩
  | sure =>
    rcases hs with z | z
    · cases z
    · exact List.mem_filter.mpr ⟨List.mem_filter.mpr ⟨h, decide_eq_true z⟩, decide_eq_true hl⟩
theorem sparedQ_in {kd : Kd} {t : Ts} {q : Pc} {k : Bk} {n : Nat} (h : tallyQ q k n ∈ fullQ kd t q k) (hs : q.clr.getD n 0 < leastQ q + t.z) : tallyQ q k n ∈ sparedQ kd t q k := List.mem_filter.mpr ⟨h, decide_eq_true hs⟩
theorem pickL_minc : ∀ (us : List Tal) (u : Tal), (∀ x ∈ u :: us, (pickL (fun x y => decide (x.c < y.c)) u us).c ≤ x.c)
  | [], u, x, hx => by rw [List.mem_singleton.mp hx]; exact Int.le_refl _
  | a :: us, u, x, hx => by
    show (pickL (fun x y => decide (x.c < y.c)) (if decide (a.c < u.c) = true then a else u) us).c ≤ x.c
    have ih := pickL_minc us (if decide (a.c < u.c) = true then a else u)
    have h0 := ih _ List.mem_cons_self
    rcases List.mem_cons.mp hx with rfl | hx
    · by_cases z : a.c < x.c
      · rw [if_pos (decide_eq_true z)] at h0 ⊢
        omega
      · rw [if_neg (by rw [decide_eq_false z]; decide)] at h0 ⊢
        exact h0
    rcases List.mem_cons.mp hx with rfl | hx
    · by_cases z : x.c < u.c
      · rw [if_pos (decide_eq_true z)] at h0 ⊢
        exact h0
      · rw [if_neg (by rw [decide_eq_false z]; decide)] at h0 ⊢
        omega
    · exact ih x (List.mem_cons_of_mem _ hx)
/-- where a block may be chosen its live pages find space -/
theorem Gs.mvu {kd : Kd} {t : Ts} {s : St} (h : Gs kd t s) {n : Nat} (hn : n ∈ goodQ s.q) (h1 : s.k.fil.getD n 0 = t.p) (h2 : s.k.live.getD n 0 ≤ spaceQ kd t s.q s.k) (hs : Spd kd t s.q n) : Mvu kd t n s := by
  refine ⟨h.core, h.nw, hn, by rw [h1, h.core.tb.2], ?_, hs⟩
  obtain ⟨s1, s2⟩ := h.core.space h.lo
  by_cases z : 0 ≤ Dq kd t s.q s.k
  · have := (h.core.wf.live_le (List.mem_range.mp (List.mem_filter.mp hn).1)).2
    have := h.core.wf.kp
    omega
  · rw [s2 (by omega)] at h2
    exact h2
/-- what a choice is -/
inductive Chs (kd : Kd) (t : Ts) (s : St) : Str → Nat → Prop
  | rule {n : Nat} (u : Tal) (us : List Tal) (ho : optsQ kd t s.q s.k = u :: us) (hb : (n : Int) = (s.ru.choose (u :: us) t.p s.k.stamp).1) (hl : s.k.live.getD n 0 < s.q.p) : Chs kd t s "rule" n
  | even {n : Nat} (hk : kd ≠ .store) (ho : optsQ kd t s.q s.k = []) (hl : s.q.p ≤ s.k.live.getD n 0) (hm : ∀ g ∈ goodQ s.q, tallyQ s.q s.k g ∈ sparedQ kd t s.q s.k → s.q.clr.getD n 0 ≤ s.q.clr.getD g 0) : Chs kd t s "even" n
theorem good_of {q : Pc} {n : Nat} (h1 : n < q.b.toNat) (h2 : q.broken.getD n false = false) : n ∈ goodQ q := List.mem_filter.mpr ⟨List.mem_range.mpr h1, by rw [h2]; rfl⟩
theorem choice_u {kd : Kd} {t : Ts} {s : St} (h : Gs kd t s) (hR : s.ru.ok) {why : Str} {b : Int} (hc : (choiceQ kd t s).1 = some (why, b)) : ∃ n : Nat, b = (n : Int) ∧ Mvu kd t n s ∧ s.k.live.getD n 0 ≤ spaceQ kd t s.q s.k ∧ Chs kd t s why n := by
  have hp := h.core.tb.2
  unfold choiceQ at hc
  cases ho : optsQ kd t s.q s.k with
  | cons u us =>
    rw [ho] at hc
    dsimp only at hc
    obtain ⟨h1, h2⟩ := Prod.mk.inj (Option.some.inj hc)
    obtain ⟨x, hx, e⟩ := choose_mem (R := s.ru) (ts := u :: us) (pages := t.p) (now := s.k.stamp) (by simp) hR
    rw [← ho] at hx
    obtain ⟨n, rfl, a1, a2, a3, a4⟩ := fullQ_mem (optsQ_sub hx).1
    obtain ⟨b1, b2, b3⟩ := optsQ_spd hx
    have e : (n : Int) = (s.ru.choose (u :: us) t.p s.k.stamp).1 := e
    refine ⟨n, by rw [← h2, e], h.mvu (good_of a1 a2) a3 a4 b3, a4, ?_⟩
    rw [← h1]
    exact .rule u us ho e (by omega)
  | nil =>
    rw [ho] at hc
    dsimp only at hc
    have key : ∀ kd', kd' = kd → kd ≠ .store → otherQ kd t s.q s.k = (match sparedQ kd' t s.q s.k with
        | [] => none
        | u :: us => some (pickL (fun x y => decide (x.c < y.c)) u us).b) → ∃ n : Nat, b = (n : Int) ∧ Mvu kd t n s ∧ s.k.live.getD n 0 ≤ spaceQ kd t s.q s.k ∧ Chs kd t s why n := fun kd' ek hk eo => by
      subst ek
      rw [eo] at hc
      cases hsp : sparedQ kd' t s.q s.k with
      | nil => rw [hsp] at hc; cases hc
      | cons u us =>
        rw [hsp] at hc
        obtain ⟨h1, h2⟩ := Prod.mk.inj (Option.some.inj hc)
        have hm := pick_mem (g := fun x y => decide (x.c < y.c)) (ts := u :: us) (by simp)
        have hm2 : pickL (fun x y => decide (x.c < y.c)) u us ∈ sparedQ kd' t s.q s.k := by rw [hsp]; exact hm
        obtain ⟨m1, m2⟩ := List.mem_filter.mp hm2
        obtain ⟨n, en, a1, a2, a3, a4⟩ := fullQ_mem m1
        rw [en] at m2 h2
        have sd : Spd kd' t s.q n := .inr (of_decide_eq_true m2)
        refine ⟨n, h2.symm, h.mvu (good_of a1 a2) a3 a4 sd, a4, ?_⟩
        rw [← h1]
        refine .even hk ho ?_ fun g hg hgs => ?_
        · by_cases z : s.k.live.getD n 0 < s.q.p
          · have := optsQ_in h.core.kn (fullQ_in (good_of a1 a2) a3 a4) (by rw [hp]; exact z) sd
            rw [ho] at this
            cases this
          · omega
        · have := pickL_minc us u (tallyQ s.q s.k g) (by rw [← hsp]; exact hgs)
          rw [en] at this
          exact this
    have hkn := h.core.kn
    cases kd with
    | plain => exact absurd rfl hkn
    | store => cases hc
    | even => exact key .even rfl (fun z => by cases z) rfl
    | sure => exact key .sure rfl (fun z => by cases z) rfl
/-! ### a block wiped -/
theorem wip_goodU {s : St} {n : Nat} (hb : s.q.broken.getD n false = false) : goodQ (wipS s n).q = goodQ s.q := by
  unfold goodQ
  refine List.filter_congr fun i _ => ?_
  show (!(s.q.broken.set n (!true)).getD i false) = _
  rw [getD_set']
  split
  · rename_i z
    rw [z.1, hb]
    rfl
  · rfl
theorem good_br {q : Pc} {n : Nat} (h : n ∈ goodQ q) : q.broken.getD n false = false := by
  have := (List.mem_filter.mp h).2
  cases e : q.broken.getD n false with
  | false => rfl
  | true => rw [e] at this; cases this
theorem wipes_core {kd : Kd} {t : Ts} {s : St} {n : Nat} (h : Mvu kd t n s) (h0 : s.k.live.getD n 0 = 0) : Core kd t (wipS s n) ∧ Dq kd t (wipS s n).q (wipS s n).k = Dq kd t s.q s.k + s.q.p ∧ Oth n s (wipS s n) ∧ (wipS s n).q.clr.getD n 0 = s.q.clr.getD n 0 + 1 := by
  have hc := h.core
  have hno : NoLive s.k n := NoLive.of hc.wf h.lt h0
  have eg := wip_goodU (s := s) (good_br h.gn)
  have hw : Wf (wipS s n).q (wipS s n).k := hc.wf.wipe h.lt hno rfl rfl rfl rfl (by show (s.q.log ++ [_]).length = _; rw [List.length_append]; rfl)
  obtain ⟨c1, c2⟩ := clr_empt (q' := (wipS s n).q) hc.wf hc.one h.gn h.fu eg rfl
  have hcl : (wipS s n).q.clr.getD n 0 = s.q.clr.getD n 0 + 1 := by
    show (s.q.clr.set n _).getD n 0 = _
    rw [getD_set', if_pos ⟨rfl, by rw [hc.cl]; exact h.lt⟩]
  have hco : ∀ g, g ≠ n → (wipS s n).q.clr.getD g 0 = s.q.clr.getD g 0 := fun g hg => by
    show (s.q.clr.set n _).getD g 0 = _
    rw [getD_set', if_neg (fun z => hg z.1)]
  have hfo : ∀ g, g ≠ n → (wipS s n).k.fil.getD g 0 = s.k.fil.getD g 0 := fun g hg => by
    show (s.k.fil.set (n : Int).toNat 0).getD g 0 = _
    rw [Int.toNat_natCast, getD_set', if_neg (fun z => hg z.1)]
  have tz := hc.tz
  refine ⟨⟨hw, fun hk => ⟨((hc.hl hk).said n ("wipe", (n : Int))).br, (hc.hl hk).ls, (hc.hl hk).m⟩, c2, hc.tb, hc.ti, hc.tz, hc.kn, (by show (s.q.broken.set _ _).length = _; rw [List.length_set]; exact hc.br), (by show (s.q.clr.set _ _).length = _; rw [List.length_set]; exact hc.cl), fun hk => ⟨?_, ?_⟩, hc.cn.wipe hc.pos.1 (by have := hc.pos; have := h.lt; omega) rfl rfl rfl⟩, ?_, fun g hg hgn hf => ⟨by rw [eg]; exact hg, by rw [hfo g hgn]; exact hf, rfl, hco g hgn⟩, hcl⟩
  · rw [eg]
    intro a ha b hb
    have hsp : s.q.clr.getD n 0 < leastQ s.q + t.z := h.sp.elim (fun z => absurd z hk) id
    have hlb := (least_of h.gn).2 b hb
    have hev := (hc.ev hk).gap
    by_cases e1 : a = n
    · by_cases e2 : b = n
      · rw [e1, e2]; omega
      · rw [e1, hcl, hco b e2]; omega
    · by_cases e2 : b = n
      · have := hev a ha n h.gn
        rw [e2, hcl, hco a e1]; omega
      · rw [hco a e1, hco b e2]; exact hev a ha b hb
  · rw [eg]
    intro f hf hf0 g hg hg0
    have hgn : g ≠ n := fun z => hg0 (by
      rw [z]
      show (s.k.fil.set (n : Int).toNat 0).getD n 0 = 0
      rw [Int.toNat_natCast, getD_set']
      split
      · rfl
      · rename_i y
        have h1 := hc.wf.bk.fil
        have h2 := hc.wf.kb
        have h3 := h.lt
        exact absurd ⟨rfl, by omega⟩ y)
    rw [hco g hgn]
    rw [hfo g hgn] at hg0
    by_cases e : f = n
    · have := (hc.ev hk).gap g hg n h.gn
      rw [e, hcl]
      omega
    · rw [hfo f e] at hf0
      rw [hco f e]
      exact (hc.ev hk).old f hf hf0 g hg hg0
  · unfold Dq
    rw [resv_eq eg, show clrP (wipS s n).q (wipS s n).k = clrP s.q s.k + s.q.p from c1]
    show clrP s.q s.k + s.q.p - resvQ kd t s.q * s.q.p = _
    omega
theorem wiped_u {kd : Kd} {t : Ts} {s : St} {n : Nat} (h : Mvu kd t n s) (hlog : s.q.log.length < 900000) :
    (s.q.dark = true ∧ wipedQ kd t s n = (.error .dark, s)) ∨ wipedQ kd t s n = (.ok true, wipS s n) ∨
    (kd = .sure ∧ wipedQ kd t s n = (.ok false, { s with q := s.q.said n false ("wipe", (n : Int)) }) ∧ wornQ t (s.q.said n false ("wipe", (n : Int))) = false) ∨
    (kd = .sure ∧ wipedQ kd t s n = (.error .wornout, { s with q := s.q.said n false ("wipe", (n : Int)) }) ∧ wornQ t (s.q.said n false ("wipe", (n : Int))) = true) := by
  unfold wipedQ
  rcases wipeP_cases (q := s.q) (n := (n : Int)) with ⟨hd, e⟩ | ⟨_, hb, _⟩ | ⟨hd, _, _, e⟩ | ⟨_, _, hb, e⟩
  · rw [e]; exact .inl ⟨hd, rfl⟩
  · rw [Int.toNat_natCast, good_br h.gn] at hb; cases hb
  · rw [e, Int.toNat_natCast]
    exact .inr (.inl rfl)
  · by_cases hk : kd = .sure
    · subst hk
      rw [e, Int.toNat_natCast]
      dsimp only
      cases hw : wornQ t (s.q.said n false ("wipe", (n : Int))) with
      | true => rw [if_pos rfl]; exact .inr (.inr (.inr ⟨rfl, rfl, rfl⟩))
      | false => rw [if_neg (by decide)]; exact .inr (.inr (.inl ⟨rfl, rfl, rfl⟩))
    · have hl := h.core.hl hk
      rw [hl.well] at hb
      have h1 := h.core.wf.cb (n : Int).toNat
      have h2 := hl.m
      rw [decide_eq_false (by omega)] at hb
      cases hb
theorem Dx.wipeF {t : Ts} {s : St} {n : Nat} (h : Core .sure t s) (hg : n ∈ goodQ s.q) : Dx .sure s { s with q := s.q.said n false ("wipe", (n : Int)) } [wipeB n false] := by
  have eg : goodQ (s.q.said n false ("wipe", (n : Int))) = (goodQ s.q).filter fun i => decide (i ≠ n) := (fail_core (e := ("wipe", (n : Int))) h hg).good
  have el := fail_len hg
  refine ⟨[wipeB n false], ⟨rfl, rfl⟩, ?_, ?_, fun z => absurd rfl z⟩
  · rw [List.filter_cons_of_pos nfp_wipe]
    rfl
  · show 1 + (goodQ (s.q.said n false ("wipe", (n : Int)))).length ≤ 1 + (goodQ s.q).length
    rw [eg]
    omega
/-! ### a making of room -/
structure RoomR (kd : Kd) (t : Ts) (s s' : St) (n : Nat) (u : Pap) : Prop where
  gs : Gs kd t s'
  pp : s'.pp = s.pp ++ [u]
  dx : Dx kd s s' (u.mv.map (fun m => putD m.to) ++ [wipeB u.blk u.well])
  mv : u.mv.map (fun m => (m.pg, m.nm)) = liveQ s.k n
  d : Dq kd t s.q s.k + s.q.p - s.k.live.getD n 0 ≤ Dq kd t s'.q s'.k
  oth : Oth n s s'
  clr : s'.q.clr = s.q.clr ∨ s'.q.clr = s.q.clr.set n (s.q.clr.getD n 0 + 1)
  out : n ∉ goodQ s'.q ∨ s'.q.clr.getD n 0 = s.q.clr.getD n 0 + 1
  well : kd ≠ .sure → u.well = true
  de : kd ≠ .sure → Dq kd t s'.q s'.k = Dq kd t s.q s.k + s.q.p - s.k.live.getD n 0
  fz : kd ≠ .sure → s'.k.fil.getD n 0 = 0
  to : kd ≠ .sure → ∀ f : Nat, nextQ s.q s.k = some f → s.k.fil.getD f 0 + s.k.live.getD n 0 ≤ s.q.p → ∀ m ∈ u.mv, m.to / s.q.p = (f : Int)
theorem room_u {kd : Kd} {t : Ts} {s : St} (h : Gs kd t s) (hR : s.ru.ok) (hlog : s.q.log.length + 40 ≤ 900000) (hst : s.k.stamp + 20 ≤ 10 ^ 30) :
    (roomQ kd t s).2.ru = (choiceQ kd t s).2 ∧
    (((choiceQ kd t s).1 = none ∧ roomQ kd t s = (.error .noroom, { s with ru := (choiceQ kd t s).2 })) ∨
    ∃ (why : Str) (n : Nat), (choiceQ kd t s).1 = some (why, (n : Int)) ∧ Mvu kd t n s ∧ s.k.live.getD n 0 ≤ spaceQ kd t s.q s.k ∧ Chs kd t s why n ∧ Cont s (roomQ kd t s).2 ∧ (∀ g ∈ goodQ (roomQ kd t s).2.q, g ∈ goodQ s.q) ∧ Core kd t (roomQ kd t s).2 ∧ (roomQ kd t s).2.k.stamp ≤ s.k.stamp + 16 ∧ (roomQ kd t s).2.q.log.length + (goodQ (roomQ kd t s).2.q).length ≤ s.q.log.length + (goodQ s.q).length + 17 ∧
      ((∃ u, (roomQ kd t s).1 = .ok u ∧ u.why = why ∧ u.some = optsQ kd t s.q s.k ∧ u.blk = (n : Int) ∧ RoomR kd t s (roomQ kd t s).2 n u) ∨
      (∃ tos : List Int, (roomQ kd t s).1 = .error .dark ∧ (roomQ kd t s).2.q.dark = true ∧ (roomQ kd t s).2.pp = s.pp ∧ Gs kd t (roomQ kd t s).2 ∧ Dx kd s (roomQ kd t s).2 (tos.map putD) ∧ (roomQ kd t s).2.q.clr = s.q.clr) ∨
      (∃ e : List (Str × Int × Bool), kd = .sure ∧ (roomQ kd t s).1 = .error .wornout ∧ wornQ t (roomQ kd t s).2.q = true ∧ (roomQ kd t s).2.pp = s.pp ∧ Dx kd s (roomQ kd t s).2 e ∧ (roomQ kd t s).2.q.clr = s.q.clr))) := by
  cases hc : choiceQ kd t s with
  | mk o ru' =>
    cases o with
    | none =>
      have e : roomQ kd t s = (.error .noroom, { s with ru := ru' }) := by unfold roomQ; rw [hc]
      rw [e]
      exact ⟨rfl, .inl ⟨rfl, rfl⟩⟩
    | some wb =>
      obtain ⟨why, b⟩ := wb
      obtain ⟨n, rfl, hM0, hsp, hch⟩ := choice_u h hR (why := why) (b := b) (by rw [hc])
      have hM := hM0.ru ru'
      have hn := hM0.lt
      obtain ⟨p1, p2, p3, p4⟩ := h.core.pos
      have hb : (n : Int) < s.q.b := by omega
      have hll := liveQ_len h.core.wf hn
      have hle := (h.core.wf.live_le hn).2
      have hle0 := (h.core.wf.live_le hn).1
      have ekp := h.core.wf.kp
      obtain ⟨g2, g3, g4, g4b, g4c, g4d, tos, g5, g6, g7, g8⟩ := moved_u (L := liveQ s.k n) hM (fun e he => by
        obtain ⟨a, b⟩ := h.core.wf.liveOk ⟨Int.natCast_nonneg _, hb⟩ he
        obtain ⟨⟨j, hj, ej⟩, _⟩ := liveQ_mem he
        refine ⟨b, ?_⟩
        show e.1 / s.k.p = _
        rw [ej]
        exact (page_at (n := n) (p := s.k.p) (x := (j : Int)) (by omega) (by omega) (by omega)).1) (liveQ_names h.core.wf hn) (by show _ ≤ s.k.live.getD n 0; omega) (by show s.k.stamp + _ < _; omega)
      replace g6 : (movedQ kd t (liveQ s.k n) { s with ru := ru' }).2.k.stamp = s.k.stamp + (tos.length : Int) := g6
      replace g5 : Dx kd s (movedQ kd t (liveQ s.k n) { s with ru := ru' }).2 (tos.map putD) := by
        obtain ⟨ds, a1, a2, a3, a4⟩ := g5.ex
        exact ⟨ds, ⟨a1.log, a1.left⟩, a2, a3, a4⟩
      replace g2 : Cont s (movedQ kd t (liveQ s.k n) { s with ru := ru' }).2 := ⟨g2.keys, g2.vals⟩
      replace g3 : (movedQ kd t (liveQ s.k n) { s with ru := ru' }).2.pp = s.pp := g3
      replace g4 : (movedQ kd t (liveQ s.k n) { s with ru := ru' }).2.ru = ru' := g4
      replace g4b : (movedQ kd t (liveQ s.k n) { s with ru := ru' }).2.q.clr = s.q.clr := g4b
      replace g4c : ∀ g ∈ goodQ (movedQ kd t (liveQ s.k n) { s with ru := ru' }).2.q, g ∈ goodQ s.q := g4c
      have e : roomQ kd t s = (match movedQ kd t (liveQ s.k n) { s with ru := ru' } with
        | (.error e, s') => (.error e, s')
        | (.ok mv, s') => match wipedQ kd t s' n with
          | (.error e, s'') => (.error e, s'')
          | (.ok w, s'') => (.ok ⟨why, optsQ kd t s.q s.k, n, mv, w⟩, { s'' with pp := s''.pp ++ [⟨why, optsQ kd t s.q s.k, n, mv, w⟩] })) := by
        unfold roomQ
        rw [hc]
        try rfl
      cases hm : movedQ kd t (liveQ s.k n) { s with ru := ru' } with
      | mk o s1 =>
        rw [hm] at e g2 g3 g4 g4b g4c g4d g5 g6 g8
        dsimp only at g2 g3 g4 g4b g4c g4d g5 g6 g8
        have hlg : s1.q.log.length + (goodQ s1.q).length ≤ s.q.log.length + (goodQ s.q).length + 16 := by
          obtain ⟨ds, a1, a2, a3, a4⟩ := g5.ex
          rw [a1.log, List.length_append]
          rw [List.length_map] at a3
          omega
        have hg16 := h.core.gl.1
        rcases g8 with ⟨ms, rfl, e2, e3, e4, e5, e6, e7, e7b, e7c⟩ | ⟨rfl, e2, e3⟩ | ⟨e1, rfl, e3⟩
        · dsimp only at e
          have hl0 : s1.k.live.getD n 0 = 0 := by
            have e6 : s1.k.live.getD n 0 = s.k.live.getD n 0 - ((liveQ s.k n).length : Int) := e6
            omega
          have hD : Dq kd t s.q s.k - s.k.live.getD n 0 ≤ Dq kd t s1.q s1.k := by
            have e7 : Dq kd t s.q s.k - ((liveQ s.k n).length : Int) ≤ Dq kd t s1.q s1.k := e7
            omega
          have ep : s1.q.p = s.q.p := by rw [← e4.core.tb.2, h.core.tb.2]
          have eo : Oth n s s1 := fun g hg hgn hf => e5 g hg hgn hf
          have hlv := hM0.lv
          rcases wiped_u (kd := kd) (t := t) e4 (by omega) with ⟨hd, e8⟩ | e8 | ⟨hk, e8, e9⟩ | ⟨hk, e8, e9⟩
          · rw [e8] at e
            rw [e]
            exact ⟨g4, .inr ⟨why, n, rfl, hM0, hsp, hch, g2, g4c, g4d, by dsimp only; omega, by dsimp only; omega, .inr (.inl ⟨tos, rfl, hd, g3, e4.gs, g5, g4b⟩)⟩⟩
          · rw [e8] at e
            dsimp only at e
            obtain ⟨c1, c2, c3, c4⟩ := wipes_core e4 hl0
            have eg := wip_goodU (s := s1) (good_br e4.gn)
            have hno := NoLive.of e4.core.wf e4.lt hl0
            rw [e]
            have dx2 : Dx kd s (wipS s1 n) (tos.map putD ++ [wipeD n]) := g5.trans (Dx.of wip_dd (fun d hd => by rw [List.mem_singleton.mp hd]; rfl) (by rw [eg]; exact Nat.le_refl _))
            refine ⟨g4, .inr ⟨why, n, rfl, hM0, hsp, hch, ⟨g2.keys, fun x hx => (wip_val e4.core.wf hno).trans (g2.vals x hx)⟩, fun g hg => g4c g (by rw [← eg]; exact hg), ⟨c1.wf, c1.hl, c1.one, c1.tb, c1.ti, c1.tz, c1.kn, c1.br, c1.cl, c1.ev, c1.cn⟩, ?_, ?_, .inl ⟨_, rfl, rfl, rfl, rfl, ⟨⟨⟨c1.wf, c1.hl, c1.one, c1.tb, c1.ti, c1.tz, c1.kn, c1.br, c1.cl, c1.ev, c1.cn⟩, ?_, ?_, fun z => ?_⟩, ?_, ?_, e3, ?_, ?_, .inr ?_, .inr ?_, fun _ => rfl, fun hk => ?_, fun _ => ?_, fun hk f hf hl => e7c hk f (fun _ => hf) (by show s.k.fil.getD f 0 + _ ≤ s.q.p; omega)⟩⟩⟩⟩
            · show s1.k.stamp ≤ _
              omega
            · show (s1.q.log ++ [_]).length + (goodQ (wipS s1 n).q).length ≤ _
              rw [eg, List.length_append]
              show s1.q.log.length + 1 + _ ≤ _
              omega
            · show wornQ t (wipS s1 n).q = false
              rw [worn_eq eg]; exact e4.nw
            · show -(s1.q.p) ≤ Dq kd t (wipS s1 n).q (wipS s1 n).k
              rw [c2]; omega
            · exfalso
              have z : Dq kd t (wipS s1 n).q (wipS s1 n).k < 0 := z
              rw [c2] at z; omega
            · show s1.pp ++ _ = _
              rw [g3]
            · obtain ⟨ds, a1, a2, a3, a4⟩ := dx2.ex
              have er : ms.map (fun m => putD m.to) = tos.map putD := by rw [← e2, List.map_map]; rfl
              refine ⟨ds, ⟨a1.log, a1.left⟩, ?_, ?_, ?_⟩
              · show _ = ms.map (fun m => putD m.to) ++ [wipeD n]
                rw [er]; exact a2
              · show _ ≤ (ms.map (fun m => putD m.to) ++ [wipeD n]).length + _
                rw [er]; exact a3
              · show _ → ds = ms.map (fun m => putD m.to) ++ [wipeD n]
                rw [er]; exact a4
            · show _ ≤ Dq kd t (wipS s1 n).q (wipS s1 n).k
              rw [c2, ep]; omega
            · exact Oth.trans (s1 := s1) ep eo c3
            · show s1.q.clr.set n (s1.q.clr.getD n 0 + 1) = _
              rw [g4b]
            · show (wipS s1 n).q.clr.getD n 0 = _
              rw [c4, g4b]
            · show Dq kd t (wipS s1 n).q (wipS s1 n).k = _
              have e7b : Dq kd t s1.q s1.k = Dq kd t s.q s.k - ((liveQ s.k n).length : Int) := e7b hk
              rw [c2, ep, e7b]
              omega
            · show (s1.k.fil.set (n : Int).toNat 0).getD n 0 = 0
              rw [Int.toNat_natCast, getD_set']
              split
              · rfl
              · rename_i hnn
                rw [List.getD_eq_getElem?_getD, List.getElem?_eq_none (by omega)]
                rfl
          · subst hk
            rw [e8] at e
            dsimp only at e
            have F := fail_core (e := ("wipe", (n : Int))) e4.core e4.gn
            have eg : goodQ (s1.q.said n false ("wipe", (n : Int))) = (goodQ s1.q).filter fun i => decide (i ≠ n) := F.good
            have el := fail_len e4.gn
            have fd : Dq .sure t (s1.q.said n false ("wipe", (n : Int))) s1.k = Dq .sure t s1.q s1.k + s1.k.fil.getD n 0 := F.d
            have ffu := e4.fu
            have hnn : n ∉ goodQ (s1.q.said n false ("wipe", (n : Int))) := fun z => by rw [eg] at z; exact absurd rfl (of_decide_eq_true (List.mem_filter.mp z).2)
            rw [e]
            have dx2 : Dx .sure s { s1 with q := s1.q.said n false ("wipe", (n : Int)) } (tos.map putD ++ [wipeB n false]) := g5.trans (Dx.wipeF e4.core e4.gn)
            have fc := F.core
            refine ⟨g4, .inr ⟨why, n, rfl, hM0, hsp, hch, ⟨g2.keys, g2.vals⟩, fun g hg => ?_, ⟨fc.wf, fc.hl, fc.one, fc.tb, fc.ti, fc.tz, fc.kn, fc.br, fc.cl, fc.ev, fc.cn⟩, ?_, ?_, .inl ⟨_, rfl, rfl, rfl, rfl, ⟨⟨⟨fc.wf, fc.hl, fc.one, fc.tb, fc.ti, fc.tz, fc.kn, fc.br, fc.cl, fc.ev, fc.cn⟩, e9, ?_, fun z => ?_⟩, ?_, ?_, e3, ?_, fun g hg hgn hf => ?_, .inl g4b, .inl hnn, fun z => absurd rfl z, fun z => absurd rfl z, fun z => absurd rfl z, fun z => absurd rfl z⟩⟩⟩⟩
            · have hg : g ∈ goodQ (s1.q.said n false ("wipe", (n : Int))) := hg
              rw [eg] at hg
              exact g4c g (List.mem_filter.mp hg).1
            · show s1.k.stamp ≤ _
              omega
            · show (s1.q.log ++ [_]).length + (goodQ (s1.q.said n false ("wipe", (n : Int)))).length ≤ _
              rw [eg, List.length_append]
              show s1.q.log.length + 1 + _ ≤ _
              omega
            · show -(s1.q.p) ≤ Dq .sure t (s1.q.said n false ("wipe", (n : Int))) s1.k
              rw [fd]; omega
            · exfalso
              have z : Dq .sure t (s1.q.said n false ("wipe", (n : Int))) s1.k < 0 := z
              rw [fd] at z; omega
            · show s1.pp ++ _ = _
              rw [g3]
            · obtain ⟨ds, a1, a2, a3, a4⟩ := dx2.ex
              have er : ms.map (fun m => putD m.to) = tos.map putD := by rw [← e2, List.map_map]; rfl
              refine ⟨ds, ⟨a1.log, a1.left⟩, ?_, ?_, fun z => absurd rfl z⟩
              · show _ = ms.map (fun m => putD m.to) ++ [wipeB n false]
                rw [er]; exact a2
              · show _ ≤ (ms.map (fun m => putD m.to) ++ [wipeB n false]).length + _
                rw [er]; exact a3
            · show _ ≤ Dq .sure t (s1.q.said n false ("wipe", (n : Int))) s1.k
              rw [fd]; omega
            · obtain ⟨o1, o2, o3, o4⟩ := eo g hg hgn hf
              refine ⟨?_, o2, o3, o4⟩
              show g ∈ goodQ (s1.q.said n false ("wipe", (n : Int)))
              rw [eg]
              exact List.mem_filter.mpr ⟨o1, decide_eq_true hgn⟩
          · subst hk
            rw [e8] at e
            dsimp only at e
            have F := fail_core (e := ("wipe", (n : Int))) e4.core e4.gn
            have eg : goodQ (s1.q.said n false ("wipe", (n : Int))) = (goodQ s1.q).filter fun i => decide (i ≠ n) := F.good
            have el := fail_len e4.gn
            rw [e]
            have dx2 : Dx .sure s { s1 with q := s1.q.said n false ("wipe", (n : Int)) } (tos.map putD ++ [wipeB n false]) := g5.trans (Dx.wipeF e4.core e4.gn)
            refine ⟨g4, .inr ⟨why, n, rfl, hM0, hsp, hch, ⟨g2.keys, g2.vals⟩, fun g hg => ?_, F.core, ?_, ?_, .inr (.inr ⟨_, rfl, rfl, e9, g3, dx2, g4b⟩)⟩⟩
            · have hg : g ∈ goodQ (s1.q.said n false ("wipe", (n : Int))) := hg
              rw [eg] at hg
              exact g4c g (List.mem_filter.mp hg).1
            · show s1.k.stamp ≤ _
              omega
            · show (s1.q.log ++ [_]).length + (goodQ (s1.q.said n false ("wipe", (n : Int)))).length ≤ _
              rw [eg, List.length_append]
              show s1.q.log.length + 1 + _ ≤ _
              omega
        · dsimp only at e
          rw [e]
          exact ⟨g4, .inr ⟨why, n, rfl, hM0, hsp, hch, g2, g4c, g4d, by dsimp only; omega, by dsimp only; omega, .inr (.inl ⟨tos, rfl, e2, g3, e3.gs, g5, g4b⟩)⟩⟩
        · dsimp only at e
          rw [e]
          exact ⟨g4, .inr ⟨why, n, rfl, hM0, hsp, hch, g2, g4c, g4d, by dsimp only; omega, by dsimp only; omega, .inr (.inr ⟨_, e1, rfl, e3, g3, g5, g4b⟩)⟩⟩
/-! ### there is always a block that may be cleared, and an end of clearing -/
theorem Gs.full {kd : Kd} {t : Ts} {s : St} (h : Gs kd t s) (hd : Dq kd t s.q s.k = 0) : ((((goodQ s.q).filter fun n => decide (s.k.fil.getD n 0 = s.q.p)).length : Int)) = t.b - 1 - t.i ∧ ∀ n ∈ goodQ s.q, s.k.fil.getD n 0 ≠ 0 → s.k.fil.getD n 0 = s.q.p := by
  have hc : clrP s.q s.k = resvQ kd t s.q * s.q.p := by unfold Dq at hd; omega
  obtain ⟨f1, f2⟩ := full_cnt h.core.wf h.core.one hc
  refine ⟨by rw [f1]; exact h.core.closed, fun n hn h0 => ?_⟩
  have := partQ_none.mp f2 n hn
  unfold isPt at this
  have hf := h.core.wf.fil n
  rw [h.core.wf.kp] at hf
  omega
theorem Gs.some {kd : Kd} {t : Ts} {s : St} (h : Gs kd t s) (hf : Few t s) (hd : Dq kd t s.q s.k = 0) : ∃ u ∈ goodQ s.q, s.k.fil.getD u 0 = s.q.p ∧ s.k.live.getD u 0 < s.q.p ∧ tallyQ s.q s.k u ∈ fullQ kd t s.q s.k := by
  obtain ⟨n, hn, hl⟩ := live_some h.core.wf (L := (goodQ s.q).filter fun n => decide (s.k.fil.getD n 0 = s.q.p)) (goodQ_nodup.filter _) (fun n hn => List.mem_range.mp (List.mem_filter.mp (List.mem_filter.mp hn).1).1) (by
    rw [(h.full hd).1]
    exact hf)
  obtain ⟨h3, h4⟩ := List.mem_filter.mp hn
  have h4 := of_decide_eq_true h4
  exact ⟨n, h3, h4, hl, fullQ_in h3 (by rw [h4, h.core.tb.2]) (by rw [(h.core.space h.lo).1 (by omega)]; omega)⟩
/-- an unspared block with a page that isn't live: none of the least cleared is free -/
theorem Gs.unsp {kd : Kd} {t : Ts} {s : St} (h : Gs kd t s) (hk : kd ≠ .store) {u : Nat} (hu : u ∈ goodQ s.q) (hf : s.k.fil.getD u 0 = s.q.p) (hs : ¬ Spd kd t s.q u) {m : Nat} (hm : m ∈ goodQ s.q) (hl : s.q.clr.getD m 0 = leastQ s.q) : s.k.fil.getD m 0 ≠ 0 := fun z => by
  have := (h.core.ev hk).old m hm z u hu (by have := h.core.pos; omega)
  exact hs (.inr (by omega))
theorem ne_nil_of {α : Type} {l : List α} {a : α} (h : a ∈ l) : l ≠ [] := List.ne_nil_of_mem h
theorem other_some {kd : Kd} {t : Ts} {q : Pc} {k : Bk} (hk : kd ≠ .plain ∧ kd ≠ .store) (h : sparedQ kd t q k ≠ []) : ∃ b, otherQ kd t q k = some b := by
  cases kd with
  | plain => exact absurd rfl hk.1
  | store => exact absurd rfl hk.2
  | even =>
    cases hs : sparedQ .even t q k with
    | nil => exact absurd hs h
    | cons u us =>
      refine ⟨(pickL (fun x y => decide (x.c < y.c)) u us).b, ?_⟩
      show (match sparedQ .even t q k with
        | [] => none
        | u :: us => some (pickL (fun x y => decide (x.c < y.c)) u us).b) = _
      rw [hs]
  | sure =>
    cases hs : sparedQ .sure t q k with
    | nil => exact absurd hs h
    | cons u us =>
      refine ⟨(pickL (fun x y => decide (x.c < y.c)) u us).b, ?_⟩
      show (match sparedQ .sure t q k with
        | [] => none
        | u :: us => some (pickL (fun x y => decide (x.c < y.c)) u us).b) = _
      rw [hs]
theorem choice_opts {kd : Kd} {t : Ts} {s : St} (h : optsQ kd t s.q s.k ≠ []) : ∃ x, (choiceQ kd t s).1 = some x := by
  unfold choiceQ
  cases ho : optsQ kd t s.q s.k with
  | nil => exact absurd ho h
  | cons u us => exact ⟨_, rfl⟩
theorem choice_exU {kd : Kd} {t : Ts} {s : St} (h : Gs kd t s) (hf : Few t s) (hd : Dq kd t s.q s.k ≤ 0) : ∃ x, (choiceQ kd t s).1 = some x := by
  have hp := h.core.tb.2
  by_cases hlt : Dq kd t s.q s.k < 0
  · obtain ⟨n, hn, a, b, c⟩ := h.fl hlt
    exact choice_opts (ne_nil_of (optsQ_in h.core.kn (fullQ_in hn (by rw [a, hp]) (by rw [(h.core.space h.lo).2 hlt]; exact b)) (by omega) c))
  · have h0 : Dq kd t s.q s.k = 0 := by omega
    obtain ⟨u, hu, a, b, c⟩ := h.some hf h0
    by_cases hs : Spd kd t s.q u
    · exact choice_opts (ne_nil_of (optsQ_in h.core.kn c (by omega) hs))
    · have hk : kd ≠ .store := fun z => hs (.inl z)
      obtain ⟨⟨m, hm, e⟩, _⟩ := least_of hu
      have hmf := (h.full h0).2 m hm (h.unsp hk hu a hs hm e)
      have hml := (h.core.wf.live_le (List.mem_range.mp (List.mem_filter.mp hm).1)).2
      have hsp : tallyQ s.q s.k m ∈ sparedQ kd t s.q s.k := sparedQ_in (fullQ_in hm (by rw [hmf, hp]) (by rw [(h.core.space h.lo).1 (by omega), ← h.core.wf.kp]; exact hml)) (by have := h.core.tz; omega)
      by_cases ho : optsQ kd t s.q s.k = []
      · obtain ⟨b, hb⟩ := other_some ⟨h.core.kn, hk⟩ (ne_nil_of hsp)
        unfold choiceQ
        rw [ho]
        dsimp only
        rw [hb]
        exact ⟨_, rfl⟩
      · exact choice_opts ho
/-- how many blocks are cleared least -/
def xc (q : Pc) : Nat := ((goodQ q).filter fun g => decide (q.clr.getD g 0 = leastQ q)).length
theorem xc_pos {q : Pc} {n : Nat} (h : n ∈ goodQ q) : 1 ≤ xc q := by
  obtain ⟨⟨m, hm, e⟩, _⟩ := least_of h
  exact List.length_pos_of_mem (List.mem_filter.mpr ⟨hm, decide_eq_true e⟩)
def needU (kd : Kd) (t : Ts) (s : St) : Nat := if 0 < Dq kd t s.q s.k then 0 else if Dq kd t s.q s.k = 0 then (if optsQ kd t s.q s.k = [] then 1 + xc s.q else 1) else 1 + (t.b - 1 - t.i).toNat
theorem xc_le {kd : Kd} {t : Ts} {s : St} (h : Gs kd t s) (hf : Few t s) (h0 : Dq kd t s.q s.k = 0) (ho : optsQ kd t s.q s.k = []) : 1 + xc s.q ≤ (t.b - 1 - t.i).toNat := by
  obtain ⟨u, hu, a, b, c⟩ := h.some hf h0
  have hp := h.core.tb.2
  have hs : ¬ Spd kd t s.q u := fun z => by
    have := optsQ_in h.core.kn c (by omega) z
    rw [ho] at this
    cases this
  have hk : kd ≠ .store := fun z => hs (.inl z)
  have tz := h.core.tz
  have hnx : u ∉ (goodQ s.q).filter fun g => decide (s.q.clr.getD g 0 = leastQ s.q) := fun z => hs (.inr (by have := of_decide_eq_true (List.mem_filter.mp z).2; omega))
  have := nodup_sub (l := u :: (goodQ s.q).filter fun g => decide (s.q.clr.getD g 0 = leastQ s.q)) (l' := (goodQ s.q).filter fun n => decide (s.k.fil.getD n 0 = s.q.p)) (List.nodup_cons.mpr ⟨hnx, goodQ_nodup.filter _⟩) fun x hx => by
    rcases List.mem_cons.mp hx with rfl | hx
    · exact List.mem_filter.mpr ⟨hu, decide_eq_true a⟩
    · obtain ⟨h1, h2⟩ := List.mem_filter.mp hx
      exact List.mem_filter.mpr ⟨h1, decide_eq_true ((h.full h0).2 x h1 (h.unsp hk hu a hs h1 (of_decide_eq_true h2)))⟩
  rw [List.length_cons] at this
  have h5 := (h.full h0).1
  unfold xc
  omega
theorem needU_le {kd : Kd} {t : Ts} {s : St} (h : Gs kd t s) (hf : Few t s) : needU kd t s ≤ 1 + (t.b - 1 - t.i).toNat ∧ (0 ≤ Dq kd t s.q s.k → needU kd t s ≤ (t.b - 1 - t.i).toNat) ∧ (t.b - 1 - t.i).toNat ≤ 15 := by
  have ht := h.core.ti
  have hb := h.core.tb.1
  have hp := h.core.pos
  have key : Dq kd t s.q s.k = 0 → (if optsQ kd t s.q s.k = [] then 1 + xc s.q else 1) ≤ (t.b - 1 - t.i).toNat := fun h0 => by
    split
    · rename_i ho
      exact xc_le h hf h0 ho
    · omega
  unfold needU
  refine ⟨?_, fun z => ?_, by omega⟩
  · split
    · omega
    · split
      · rename_i h0
        have := key h0
        omega
      · omega
  · split
    · omega
    · split
      · rename_i h0
        exact key h0
      · omega
/-- a making of room brings the end nearer -/
theorem room_need {kd : Kd} {t : Ts} {s s' : St} {n : Nat} {u : Pap} {why : Str} (h : Gs kd t s) (hf : Few t s) (hf' : Few t s') (hd : Dq kd t s.q s.k ≤ 0) (hM : Mvu kd t n s) (hc : Chs kd t s why n) (hr : RoomR kd t s s' n u) (sub : ∀ g ∈ goodQ s'.q, g ∈ goodQ s.q) : needU kd t s' + 1 ≤ needU kd t s ∧ 0 ≤ Dq kd t s'.q s'.k := by
  have hlv := hM.lv
  have hD := hr.d
  have hlp := (h.core.wf.live_le hM.lt).2
  rw [h.core.wf.kp] at hlp
  have hD0 : 0 ≤ Dq kd t s'.q s'.k := by omega
  refine ⟨?_, hD0⟩
  have ht := h.core.ti
  obtain ⟨_, n1, n2⟩ := needU_le hr.gs hf'
  have n1 := n1 hD0
  by_cases hlt : Dq kd t s.q s.k < 0
  · have : needU kd t s = 1 + (t.b - 1 - t.i).toNat := by
      unfold needU
      rw [if_neg (by omega), if_neg (by omega)]
    omega
  · have h0 : Dq kd t s.q s.k = 0 := by omega
    have e1 : needU kd t s = if optsQ kd t s.q s.k = [] then 1 + xc s.q else 1 := by
      unfold needU
      rw [if_neg (by omega), if_pos h0]
    have hge : 1 ≤ needU kd t s := by
      rw [e1]
      split <;> omega
    by_cases hpos : 0 < Dq kd t s'.q s'.k
    · have : needU kd t s' = 0 := by unfold needU; rw [if_pos hpos]
      omega
    · have h0' : Dq kd t s'.q s'.k = 0 := by omega
      have e2 : needU kd t s' = if optsQ kd t s'.q s'.k = [] then 1 + xc s'.q else 1 := by
        unfold needU
        rw [if_neg (by omega), if_pos h0']
      cases hc with
      | rule x xs ho hb hl => omega
      | even hk ho hl hm =>
        rw [if_pos ho] at e1
        by_cases ho' : optsQ kd t s'.q s'.k = []
        · rw [if_pos ho'] at e2
          obtain ⟨v, hv, a, b, c⟩ := h.some hf h0
          have hp := h.core.tb.2
          have hp' := hr.gs.core.tb.2
          have hs : ¬ Spd kd t s.q v := fun z => by
            have := optsQ_in h.core.kn c (by omega) z
            rw [ho] at this
            cases this
          have hgt : ¬ s.q.clr.getD v 0 < leastQ s.q + t.z := fun z => hs (.inr z)
          obtain ⟨⟨m, hmg, em⟩, hle⟩ := least_of hv
          have hmf := (h.full h0).2 m hmg (h.unsp hk hv a hs hmg em)
          have hml := (h.core.wf.live_le (List.mem_range.mp (List.mem_filter.mp hmg).1)).2
          have tz := h.core.tz
          have hsp : tallyQ s.q s.k m ∈ sparedQ kd t s.q s.k := sparedQ_in (fullQ_in hmg (by rw [hmf, hp]) (by rw [(h.core.space h.lo).1 (by omega), ← h.core.wf.kp]; exact hml)) (by omega)
          have hnl : s.q.clr.getD n 0 = leastQ s.q := by
            have := hm m hmg hsp
            have := hle n hM.gn
            omega
          have hvn : v ≠ n := fun z => by rw [z] at hgt; omega
          obtain ⟨o1, o2, o3, o4⟩ := hr.oth v hv hvn a
          have hns : ¬ Spd kd t s'.q v := fun z => by
            have hfu : tallyQ s'.q s'.k v ∈ fullQ kd t s'.q s'.k := fullQ_in o1 (by rw [o2, hp]) (by rw [o3, (hr.gs.core.space hr.gs.lo).1 hD0]; omega)
            have := optsQ_in hr.gs.core.kn hfu (by rw [o3]; omega) z
            rw [ho'] at this
            cases this
          have hgt' : ¬ s'.q.clr.getD v 0 < leastQ s'.q + t.z := fun z => hns (.inr z)
          have hgap := (h.core.ev hk).gap v hv m hmg
          have hll : leastQ s'.q ≤ leastQ s.q := by omega
          have hcl : ∀ g, g ≠ n → s'.q.clr.getD g 0 = s.q.clr.getD g 0 := fun g hg => by
            rcases hr.clr with z | z
            · rw [z]
            · rw [z, getD_set', if_neg (fun y => hg y.1)]
          have hnn : n ∉ (goodQ s'.q).filter fun g => decide (s'.q.clr.getD g 0 = leastQ s'.q) := fun z => by
            obtain ⟨z1, z2⟩ := List.mem_filter.mp z
            have z2 := of_decide_eq_true z2
            rcases hr.out with y | y
            · exact y z1
            · omega
          have := nodup_sub (l := n :: (goodQ s'.q).filter fun g => decide (s'.q.clr.getD g 0 = leastQ s'.q)) (l' := (goodQ s.q).filter fun g => decide (s.q.clr.getD g 0 = leastQ s.q)) (List.nodup_cons.mpr ⟨hnn, goodQ_nodup.filter _⟩) fun x hx => by
            rcases List.mem_cons.mp hx with rfl | hx
            · exact List.mem_filter.mpr ⟨hM.gn, decide_eq_true hnl⟩
            · obtain ⟨h1, h2⟩ := List.mem_filter.mp hx
              have h2 := of_decide_eq_true h2
              have hxn : x ≠ n := fun z => hnn (z ▸ hx)
              rw [hcl x hxn] at h2
              have := hle x (sub x h1)
              exact List.mem_filter.mpr ⟨sub x h1, decide_eq_true (by omega)⟩
          rw [List.length_cons] at this
          rw [e1, e2]
          unfold xc
          omega
        · rw [if_neg ho'] at e2
          have := xc_pos hM.gn
          omega
/-! ### rows of makings -/
def dsU (ps : List Pap) : List (Str × Int × Bool) := ps.flatMap fun u => u.mv.map (fun m => putD m.to) ++ [wipeB u.blk u.well]
theorem dsU_cons {u : Pap} {ps : List Pap} : dsU (u :: ps) = (u.mv.map (fun m => putD m.to) ++ [wipeB u.blk u.well]) ++ dsU ps := rfl
/-- makings one behind the other, each done -/
inductive Steps (kd : Kd) (t : Ts) : St → List Pap → St → Prop
  | nil {s : St} : Steps kd t s [] s
  | cons {s s1 s2 : St} {n : Nat} {why : Str} {u : Pap} {ps : List Pap} (hg : Gs kd t s) (hf : Few t s) (hd : Dq kd t s.q s.k ≤ 0) (hM : Mvu kd t n s) (hc : Chs kd t s why n) (hr : RoomR kd t s s1 n u) (hu : u.why = why ∧ u.some = optsQ kd t s.q s.k ∧ u.blk = (n : Int)) (ct : Cont s s1) (sub : ∀ g ∈ goodQ s1.q, g ∈ goodQ s.q) (rest : Steps kd t s1 ps s2) : Steps kd t s (u :: ps) s2
structure MadeU (kd : Kd) (t : Ts) (m : Nat) (s s' : St) (ps : List Pap) : Prop where
  st : ∃ s2, Steps kd t s ps s2 ∧ s'.q.clr = s2.q.clr
  pp : s'.pp = s.pp ++ ps
  len : ps.length ≤ m
  stamp : s'.k.stamp ≤ s.k.stamp + 16 * (m : Int)
  log : s'.q.log.length + (goodQ s'.q).length ≤ s.q.log.length + (goodQ s.q).length + 17 * m
/-- a rule asked goes on as one that chooses; a simple one stays as it is -/
def Rl.nx (R R' : Rl) : Prop := R'.ok ∧ ∀ g, R = .by g → R' = .by g
theorem Rl.nx.refl {R : Rl} (h : R.ok) : Rl.nx R R := ⟨h, fun _ e => e⟩
theorem Rl.nx.trans {R R1 R2 : Rl} (a : Rl.nx R R1) (b : Rl.nx R1 R2) : Rl.nx R R2 := ⟨b.1, fun g e => b.2 g (a.2 g e)⟩
theorem choice_by {kd : Kd} {t : Ts} {s : St} {g : Int → Int → Tal → Tal → Bool} (h : s.ru = .by g) : (choiceQ kd t s).2 = .by g := by
  unfold choiceQ
  split <;> (try split) <;> (try rw [h]) <;> (try rfl)
theorem rooms_u {kd : Kd} {t : Ts} : ∀ (m f : Nat) (s : St), m < f → needU kd t s ≤ m → Gs kd t s → s.ru.ok → Few t s → s.q.log.length + (goodQ s.q).length + 40 * (m + 1) ≤ 900000 → s.k.stamp + 20 * ((m : Int) + 1) ≤ 10 ^ 30 →
    Cont s (roomsQ kd t f s).2 ∧ Core kd t (roomsQ kd t f s).2 ∧ Rl.nx s.ru (roomsQ kd t f s).2.ru ∧ ∃ (ps : List Pap) (e : List (Str × Int × Bool)), MadeU kd t m s (roomsQ kd t f s).2 ps ∧ (kd ≠ .sure → ∀ u ∈ ps, u.well = true) ∧
      (((roomsQ kd t f s).1 = .ok () ∧ Gs kd t (roomsQ kd t f s).2 ∧ 0 < Dq kd t (roomsQ kd t f s).2.q (roomsQ kd t f s).2.k ∧ Dx kd s (roomsQ kd t f s).2 (dsU ps) ∧ Steps kd t s ps (roomsQ kd t f s).2) ∨
       ((roomsQ kd t f s).1 = .error .dark ∧ Gs kd t (roomsQ kd t f s).2 ∧ (roomsQ kd t f s).2.q.dark = true ∧ (∃ tos : List Int, e = tos.map putD) ∧ Dx kd s (roomsQ kd t f s).2 (dsU ps ++ e)) ∨
       (kd = .sure ∧ (roomsQ kd t f s).1 = .error .wornout ∧ wornQ t (roomsQ kd t f s).2.q = true ∧ Dx kd s (roomsQ kd t f s).2 (dsU ps ++ e)))
  | m, 0, s, h, _, _, _, _, _, _ => by cases h
  | m, f + 1, s, hm, hn, h, hR, hF, hlog, hst => by
    have er := h.core.ready
    by_cases hr : 0 < Dq kd t s.q s.k
    · rw [rooms_go (er.trans (decide_eq_true hr))]
      exact ⟨Cont.refl, h.core, Rl.nx.refl hR, [], [], ⟨⟨s, .nil, rfl⟩, by rw [List.append_nil], Nat.zero_le _, by show s.k.stamp ≤ _; omega, Nat.le_add_right _ _⟩, fun _ u hu => (by cases hu), .inl ⟨rfl, h, hr, Dx.refl, .nil⟩⟩
    · rw [decide_eq_false hr] at er
      obtain ⟨x, hx⟩ := choice_exU h hF (by omega)
      obtain ⟨e1, h2⟩ := room_u h hR (by omega) (by omega)
      rcases h2 with ⟨hc, _⟩ | ⟨why, n, hc, hM, hsp, hch, g2, g3, g4, g5, g6, h3⟩
      · rw [hc] at hx
        cases hx
      · have hR1 : (roomQ kd t s).2.ru.ok := by rw [e1]; exact choice_ok hR
        have hN1 : Rl.nx s.ru (roomQ kd t s).2.ru := ⟨hR1, fun g e => by rw [e1]; exact choice_by e⟩
        have hF1 : Few t (roomQ kd t s).2 := by
          unfold Few at hF ⊢
          rw [g2.len h.core.wf g4.wf, ← g4.tb.2, h.core.tb.2]
          exact hF
        have hge : 1 ≤ needU kd t s := by
          unfold needU
          rw [if_neg hr]
          split
          · split <;> omega
          · omega
        obtain ⟨m, rfl⟩ : ∃ m', m = m' + 1 := ⟨m - 1, by omega⟩
        push_cast at hst
        rcases h3 with ⟨u, o1, o2, o3, o4, o5⟩ | ⟨tos, o1, o2, o3, o4, o5, o6⟩ | ⟨e, o0, o1, o2, o3, o4, o5⟩
        · have hn1 := (room_need h hF hF1 (by omega) hM hch o5 g3).1
          obtain ⟨k1, k2, k3, ps, e, k4, k5, k6⟩ := rooms_u m f (roomQ kd t s).2 (by omega) (by omega) o5.gs hR1 hF1 (by omega) (by omega)
          rw [rooms_ok er o1]
          refine ⟨g2.trans k1, k2, hN1.trans k3, u :: ps, e, ⟨(k4.st.imp fun s2 z => ⟨.cons h hF (by omega) hM hch o5 ⟨o2, o3, o4⟩ g2 g3 z.1, z.2⟩), by rw [k4.pp, o5.pp, List.append_assoc]; rfl, ?_, ?_, ?_⟩, fun hk v hv => ?_, ?_⟩
          · have := k4.len
            rw [List.length_cons]
            omega
          · have := k4.stamp
            push_cast
            omega
          · have := k4.log
            omega
          · rcases List.mem_cons.mp hv with rfl | hv
            · exact o5.well hk
            · exact k5 hk v hv
          · rcases k6 with ⟨a, b, c, d, d2⟩ | ⟨a, b, c, d, e'⟩ | ⟨a, b, c, d⟩
            · exact .inl ⟨a, b, c, by rw [dsU_cons]; exact o5.dx.trans d, .cons h hF (by omega) hM hch o5 ⟨o2, o3, o4⟩ g2 g3 d2⟩
            · exact .inr (.inl ⟨a, b, c, d, by rw [dsU_cons, List.append_assoc]; exact o5.dx.trans e'⟩)
            · exact .inr (.inr ⟨a, b, c, by rw [dsU_cons, List.append_assoc]; exact o5.dx.trans d⟩)
        · rw [rooms_err er o1]
          exact ⟨g2, g4, hN1, [], tos.map putD, ⟨⟨s, .nil, o6⟩, by rw [List.append_nil]; exact o3, Nat.zero_le _, by push_cast; omega, by dsimp only; omega⟩, fun _ u hu => (by cases hu), .inr (.inl ⟨rfl, o4, o2, ⟨tos, rfl⟩, o5⟩)⟩
        · rw [rooms_err er o1]
          exact ⟨g2, g4, hN1, [], e, ⟨⟨s, .nil, o5⟩, by rw [List.append_nil]; exact o3, Nat.zero_le _, by push_cast; omega, by dsimp only; omega⟩, fun _ u hu => (by cases hu), .inr (.inr ⟨o0, rfl, o2, o4⟩)⟩
/-! ### what laws of stores share: dicts of what is kept, a store that is made, a state -/
def kvF (f : Int → V) (ps : List (Int × Int)) : List (L2.Key × V) := ps.map fun e => (.inl e.1, f e.2)
/-! own dicts -/
theorem putI_keys {ps : List (Int × Int)} {n x : Int} : (putI ps n x).map (·.1) = if n ∈ ps.map (·.1) then ps.map (·.1) else ps.map (·.1) ++ [n] := by
  unfold putI
  by_cases h : n ∈ ps.map (·.1)
  · rw [if_pos h, if_pos (by obtain ⟨e, he, z⟩ := List.mem_map.mp h; exact List.any_eq_true.mpr ⟨e, he, decide_eq_true z⟩), List.map_map]
    refine List.map_congr_left fun e _ => ?_
    show (if e.1 = n then (e.1, x) else e).1 = e.1
    split <;> rfl
  · rw [if_neg h, if_neg (fun z => by obtain ⟨e, he, y⟩ := List.any_eq_true.mp z; exact h (List.mem_map.mpr ⟨e, he, of_decide_eq_true y⟩)), List.map_append]
    rfl
theorem mem_put {ps : List (Int × Int)} {n x m : Int} : m ∈ (putI ps n x).map (·.1) ↔ m ∈ ps.map (·.1) ∨ m = n := by
  rw [putI_keys]
  split
  · rename_i h
    exact ⟨.inl, fun z => z.elim id fun y => y ▸ h⟩
  · rw [List.mem_append, List.mem_singleton]
/-! ### an ask of any store but a plain one, with no heap -/
structure BndU (N : Nat) (s : St) : Prop where
  log : s.q.log.length ≤ 400 * N
  stamp : s.k.stamp ≤ 400 * (N : Int) + 1
  pp : s.pp.length ≤ 20 * N
theorem BndU.fits {N : Nat} {s : St} (h : BndU N s) (hN : N ≤ 2200) : Fits s := by
  obtain ⟨a, b, c⟩ := h
  exact ⟨by omega, by omega, by omega⟩
theorem BndU.up {N M : Nat} {s : St} (h : BndU N s) (e : N ≤ M) : BndU M s := ⟨by have := h.log; omega, by have := h.stamp; omega, by have := h.pp; omega⟩
/-- what is kept, and a store -/
structure OwnU (kd : Kd) (t : Ts) (N : Nat) (s : St) (kv : List (Int × Int)) : Prop where
  core : Core kd t s
  gs : wornQ t s.q = false → Gs kd t s
  ru : s.ru.ok
  bnd : BndU N s
  few : t.h + 1 < t.p * (t.b - 1 - t.i)
  vals : ∀ m, m ≠ 64 → valQ s m = getI kv m
  keys : (kv.map (·.1)).Nodup
  rng : ∀ e ∈ kv, 0 ≤ e.1 ∧ e.1 < t.s ∧ t.s ≤ 64
  le : (kv.length : Int) ≤ t.h
theorem OwnU.up {kd : Kd} {t : Ts} {N M : Nat} {s : St} {kv : List (Int × Int)} (h : OwnU kd t N s kv) (e : N ≤ M) : OwnU kd t M s kv := ⟨h.core, h.gs, h.ru, h.bnd.up e, h.few, h.vals, h.keys, h.rng, h.le⟩
theorem OwnU.perm {kd : Kd} {t : Ts} {N : Nat} {s : St} {kv : List (Int × Int)} (h : OwnU kd t N s kv) : (heldL s.k).length = kv.length ∧ ∀ n, n ∈ heldL s.k ↔ n ∈ kv.map (·.1) := by
  have hm : ∀ n, n ∈ heldL s.k ↔ n ∈ kv.map (·.1) := fun n => by
    rw [heldL_some]
    constructor
    · rintro ⟨h1, h2⟩
      have := h.vals n h2
      unfold valQ at this
      cases hg : getI s.k.wh n with
      | none => rw [hg] at h1; cases h1
      | some x =>
        rw [hg] at this
        exact List.mem_map.mpr ⟨_, getI_mem this.symm, rfl⟩
    · intro hn
      obtain ⟨e, he, rfl⟩ := List.mem_map.mp hn
      have := h.rng e he
      have h64 : e.1 ≠ 64 := by omega
      refine ⟨?_, h64⟩
      have h2 := h.vals e.1 h64
      rw [getI_of_mem h.keys (n := e.1) (x := e.2) he] at h2
      unfold valQ at h2
      cases hg : getI s.k.wh e.1 with
      | none => rw [hg] at h2; cases h2
      | some x => rfl
  refine ⟨?_, hm⟩
  have a := nodup_sub h.core.wf.held_nodup (fun x hx => (hm x).mp hx)
  have b := nodup_sub h.keys (fun x hx => (hm x).mpr hx)
  rw [List.length_map] at a b
  omega
theorem OwnU.held {kd : Kd} {t : Ts} {N : Nat} {s : St} {kv : List (Int × Int)} (h : OwnU kd t N s kv) : heldL s.k = sortZ (kv.map (·.1)) := by
  have hp : (heldL s.k).Perm (kv.map (·.1)) := (List.perm_ext_iff_of_nodup h.core.wf.held_nodup h.keys).mpr h.perm.2
  refine sortZ_eq hp ?_
  unfold heldL
  exact sortZ_pw _
theorem OwnU.none {kd : Kd} {t : Ts} {N : Nat} {s : St} {kv : List (Int × Int)} (h : OwnU kd t N s kv) {n : Int} (hn : n ≠ 64) : getI s.k.wh n = none ↔ n ∉ kv.map (·.1) := by
  have := h.vals n hn
  rw [← getI_key, ← this]
  unfold valQ
  rw [Option.map_eq_none_iff]
theorem OwnU.fewS {kd : Kd} {t : Ts} {N : Nat} {s : St} {kv : List (Int × Int)} (h : OwnU kd t N s kv) : Few t s := by
  unfold Few
  have := h.core.wf.wh_le
  have := h.perm.1
  have := h.le
  have := h.few
  rw [← h.core.tb.2]
  omega
/-- what an ask leaves, whether it was done or not -/
structure LeftU (kd : Kd) (t : Ts) (N : Nat) (s s' : St) (ps : List Pap) : Prop where
  core : Core kd t s'
  ru : s'.ru.ok
  bnd : BndU (N + 1) s'
  pp : s'.pp = s.pp ++ ps
  len : ps.length ≤ needU kd t s
  well : kd ≠ .sure → ∀ u ∈ ps, u.well = true
  st : ∃ s2, Steps kd t s ps s2 ∧ s'.q.clr = s2.q.clr
  rb : ∀ g, s.ru = .by g → s'.ru = .by g
theorem mkReady_rooms {kd : Kd} {t : Ts} {f : Nat} {s : St} (hk : kd ≠ .plain) (nw : wornQ t s.q = false) : mkReadyQ kd t f s = roomsQ kd t f s := by
  cases kd with
  | plain => exact absurd rfl hk
  | store => rfl
  | even => rfl
  | sure =>
    show (if wornQ t s.q = true then _ else _) = _
    rw [if_neg (by rw [nw]; decide)]
theorem ready_u {kd : Kd} {t : Ts} {s : St} {N : Nat} {kv : List (Int × Int)} (h : OwnU kd t N s kv) (nw : wornQ t s.q = false) (hN : N ≤ 2000) :
    ∃ (ps : List Pap) (e : List (Str × Int × Bool)), LeftU kd t N s (mkReadyQ kd t 20 s).2 ps ∧ Cont s (mkReadyQ kd t 20 s).2 ∧ (mkReadyQ kd t 20 s).2.q.log.length + 20 ≤ 400 * (N + 1) ∧ (mkReadyQ kd t 20 s).2.k.stamp + 20 ≤ 400 * ((N : Int) + 1) + 1 ∧
      (((mkReadyQ kd t 20 s).1 = .ok () ∧ Gs kd t (mkReadyQ kd t 20 s).2 ∧ 0 < Dq kd t (mkReadyQ kd t 20 s).2.q (mkReadyQ kd t 20 s).2.k ∧ Dx kd s (mkReadyQ kd t 20 s).2 (dsU ps) ∧ Steps kd t s ps (mkReadyQ kd t 20 s).2) ∨
       ((mkReadyQ kd t 20 s).1 = .error .dark ∧ Gs kd t (mkReadyQ kd t 20 s).2 ∧ (mkReadyQ kd t 20 s).2.q.dark = true ∧ (∃ tos : List Int, e = tos.map putD) ∧ Dx kd s (mkReadyQ kd t 20 s).2 (dsU ps ++ e)) ∨
       (kd = .sure ∧ (mkReadyQ kd t 20 s).1 = .error .wornout ∧ wornQ t (mkReadyQ kd t 20 s).2.q = true ∧ Dx kd s (mkReadyQ kd t 20 s).2 (dsU ps ++ e))) := by
  have hg := h.gs nw
  have hn := needU_le hg h.fewS
  have hgl := h.core.gl.1
  have hp := h.core.pos
  obtain ⟨b1, b2, b3⟩ := h.bnd
  rw [mkReady_rooms h.core.kn nw]
  obtain ⟨k1, k2, k3, ps, e, k4, k5, k6⟩ := rooms_u (needU kd t s) 20 s (by omega) (Nat.le_refl _) hg h.ru h.fewS (by omega) (by omega)
  have m1 := k4.log
  have m2 := k4.stamp
  have m3 := k4.len
  exact ⟨ps, e, ⟨k2, k3.1, ⟨by omega, by push_cast; omega, by rw [k4.pp, List.length_append]; omega⟩, k4.pp, k4.len, k5, k4.st, k3.2⟩, k1, by omega, by omega, k6⟩
/-- refused where it is worn -/
theorem mkReady_worn {t : Ts} {f : Nat} {s : St} (hw : wornQ t s.q = true) : mkReadyQ .sure t f s = (.error .wornout, s) := by
  show (if wornQ t s.q = true then _ else _) = _
  rw [if_pos hw]
/-- a put ahead of which the store is ready -/
inductive PutR (kd : Kd) (t : Ts) (N : Nat) (s0 s : St) (ps : List Pap) (n v : Int) (r : Except Rf Int × St) : Prop
  | ok (pg : Int) (s1 : St) (m : Nat) (hr : r = (.ok pg, putS s1 pg m n v)) (hF : Fls kd t s s1) (sp : Spot s1.q s1.k pg m) (hg : Gs kd t (putS s1 pg m n v)) (hd : 0 ≤ Dq kd t (putS s1 pg m n v).q (putS s1 pg m n v).k) (hl : LeftU kd t N s0 (putS s1 pg m n v) ps) (hx : Dx kd s0 (putS s1 pg m n v) (dsU ps ++ [putD pg])) (hq : Dq kd t s.q s.k ≤ Dq kd t (putS s1 pg m n v).q (putS s1 pg m n v).k + 1)
  | dark (s1 : St) (hr : r = (.error .dark, s1)) (hF : Fls kd t s s1) (hg : Gs kd t s1) (hd : s1.q.dark = true) (hl : LeftU kd t N s0 s1 ps) (hx : Dx kd s0 s1 (dsU ps))
  | worn (s1 : St) (hk : kd = .sure) (hr : r = (.error .wornout, s1)) (hF : Fls kd t s s1) (hw : wornQ t s1.q = true) (hl : LeftU kd t N s0 s1 ps) (hx : Dx kd s0 s1 (dsU ps))
theorem put_u {kd : Kd} {t : Ts} {s0 s : St} {N : Nat} {ps : List Pap} {n v : Int} (h : LeftU kd t N s0 s ps) (hg : Gs kd t s) (hl : s.q.log.length + 20 ≤ 400 * (N + 1)) (hs : s.k.stamp + 20 ≤ 400 * ((N : Int) + 1) + 1) (hN : N ≤ 2000) (hd : 0 < Dq kd t s.q s.k) (hx : Dx kd s0 s (dsU ps)) (hn : 0 ≤ n ∧ n ≤ 64) : PutR kd t N s0 s ps n v (layQ kd t s n v) := by
  have hp := hg.core.pos
  have hgl := hg.core.gl.1
  have lg : ∀ s1, Fls kd t s s1 → s1.q.log.length + (goodQ s1.q).length ≤ s.q.log.length + (goodQ s.q).length := fun s1 F => by
    obtain ⟨ds, a1, a2, a3, a4⟩ := F.dx.ex
    rw [a1.log, List.length_append]
    rw [List.length_nil] at a3
    omega
  have lf : ∀ s1, Fls kd t s s1 → LeftU kd t N s0 s1 ps ∧ Dx kd s0 s1 (dsU ps) := fun s1 F => by
    have := lg s1 F
    refine ⟨⟨F.core, by rw [F.ru]; exact h.ru, ⟨by omega, by rw [F.k]; push_cast; omega, by rw [F.pp]; exact h.bnd.pp⟩, by rw [F.pp]; exact h.pp, h.len, h.well, by rw [F.clr]; exact h.st, by rw [F.ru]; exact h.rb⟩, ?_⟩
    have := hx.trans F.dx
    rw [List.append_nil] at this
    exact this
  rcases lay_u (n := n) (v := v) hg.core hg.nw (by omega) with ⟨s1, pg, m, F, nw, sp, e⟩ | ⟨s1, F, nw, hdk, e⟩ | ⟨s1, F, hk, hw, e⟩
  · obtain ⟨c1, c2⟩ := put_core (n := n) (v := v) F.core sp hn (by rw [F.k]; omega)
    have eg := put_goodU (n := n) (v := v) sp
    have hD := F.d
    obtain ⟨l1, l2⟩ := lf s1 F
    have hlg := lg s1 F
    have hD0 : 0 ≤ Dq kd t (putS s1 pg m n v).q (putS s1 pg m n v).k := by rw [c2]; omega
    refine .ok pg s1 m e F sp (Gs.of c1 (by rw [worn_eq eg]; exact nw) hD0) hD0 ⟨c1, l1.ru, ⟨?_, ?_, l1.bnd.pp⟩, l1.pp, l1.len, l1.well, l1.st, l1.rb⟩ (l2.trans (Dx.of put_dd (fun d hd => by rw [List.mem_singleton.mp hd]; rfl) (by rw [eg]; exact Nat.le_refl _))) (by rw [c2]; omega)
    · show (s1.q.log ++ [_]).length ≤ _
      rw [List.length_append]
      show _ + 1 ≤ _
      omega
    · show (s1.k.note pg n).stamp ≤ _
      rw [note_st, F.k]
      push_cast
      omega
  · obtain ⟨l1, l2⟩ := lf s1 F
    exact .dark s1 e F (Gs.of F.core nw (by have := F.d; omega)) hdk l1 l2
  · obtain ⟨l1, l2⟩ := lf s1 F
    exact .worn s1 hk e F hw l1 l2
/-- how an ask ends -/
inductive AskR (kd : Kd) (t : Ts) (N : Nat) (s : St) (kv kv' : List (Int × Int)) (ok : Int → Int) (r : Except Rf Int × St) : Prop
  | done (ps : List Pap) (pg : Int) (hr : r.1 = .ok (ok pg)) (ho : OwnU kd t (N + 1) r.2 kv') (nw : wornQ t r.2.q = false) (hd : 0 ≤ Dq kd t r.2.q r.2.k) (hl : LeftU kd t N s r.2 ps) (hx : Dx kd s r.2 (dsU ps ++ [putD pg])) (hq : ∃ s2, Steps kd t s ps s2 ∧ Dq kd t s2.q s2.k ≤ Dq kd t r.2.q r.2.k + 1 ∧ 0 < Dq kd t s2.q s2.k)
  | dark (ps : List Pap) (tos : List Int) (hr : r.1 = .error .dark) (ho : OwnU kd t (N + 1) r.2 kv) (nw : wornQ t r.2.q = false) (hd : r.2.q.dark = true) (hl : LeftU kd t N s r.2 ps) (hx : Dx kd s r.2 (dsU ps ++ tos.map putD))
  | worn (ps : List Pap) (e : List (Str × Int × Bool)) (hk : kd = .sure) (hr : r.1 = .error .wornout) (ho : OwnU kd t (N + 1) r.2 kv) (hw : wornQ t r.2.q = true) (hl : LeftU kd t N s r.2 ps) (hx : Dx kd s r.2 (dsU ps ++ e))
theorem OwnU.next {kd : Kd} {t : Ts} {N : Nat} {s s' : St} {kv : List (Int × Int)} {ps : List Pap} (h : OwnU kd t N s kv) (hl : LeftU kd t N s s' ps) (hg : wornQ t s'.q = false → Gs kd t s') (hv : ∀ m, m ≠ 64 → valQ s' m = valQ s m) : OwnU kd t (N + 1) s' kv :=
  ⟨hl.core, hg, hl.ru, hl.bnd, h.few, fun m hm => (hv m hm).trans (h.vals m hm), h.keys, h.rng, h.le⟩
theorem LeftU.refl {kd : Kd} {t : Ts} {N : Nat} {s : St} {kv : List (Int × Int)} (h : OwnU kd t N s kv) : LeftU kd t N s s [] := ⟨h.core, h.ru, h.bnd.up (Nat.le_succ N), by rw [List.append_nil], Nat.zero_le _, fun _ u hu => (by cases hu), ⟨s, .nil, rfl⟩, fun _ e => e⟩
theorem OwnU.write {kd : Kd} {t : Ts} {N : Nat} {s : St} {kv : List (Int × Int)} (h : OwnU kd t N s kv) (hN : N ≤ 2000) {n v : Int} (hn : 0 ≤ n ∧ n < t.s) (hs : t.s ≤ 64) :
    (n ∉ kv.map (·.1) ∧ t.h ≤ (kv.length : Int) → writeQ kd t 20 s n v = (.error .full, s)) ∧
    (¬ (n ∉ kv.map (·.1) ∧ t.h ≤ (kv.length : Int)) → AskR kd t N s kv (putI kv n v) (fun pg => pg) (writeQ kd t 20 s n v)) := by
  have e1 := h.none (n := n) (by omega)
  have e2 := h.perm.1
  refine ⟨fun z => ?_, fun z => ?_⟩
  · unfold writeQ
    rw [if_pos ⟨e1.mpr z.1, by rw [e2]; exact z.2⟩]
  · have ew : writeQ kd t 20 s n v = (match mkReadyQ kd t 20 s with
      | (.error e, s') => (.error e, s')
      | (.ok _, s') => layQ kd t s' n v) := by
      unfold writeQ
      rw [if_neg (by rw [e1, e2]; exact z)]
      try rfl
    cases hw : wornQ t s.q with
    | true =>
      have hk : kd = .sure := by
        by_cases hk : kd = .sure
        · exact hk
        · exfalso
          have := h.core.gl.2 hk
          have h1 := h.core.tb.1
          have h2 := h.core.ti
          have h3 := h.core.pos
          unfold wornQ at hw
          have := of_decide_eq_true hw
          omega
      subst hk
      rw [mkReady_worn hw] at ew
      rw [ew]
      exact .worn [] [] rfl rfl (h.up (Nat.le_succ N)) hw (LeftU.refl h) Dx.refl
    | false =>
      obtain ⟨ps, e, k1, k2, k3, k4, k5⟩ := ready_u h hw hN
      cases hm : mkReadyQ kd t 20 s with
      | mk o s1 =>
        rw [hm] at k1 k2 k3 k4 k5 ew
        rcases k5 with ⟨rfl, a, b, c, cs⟩ | ⟨rfl, a, b, ⟨tos, rfl⟩, c⟩ | ⟨hk, rfl, a, b⟩
        · dsimp only at ew
          rw [ew]
          rcases put_u (n := n) (v := v) k1 a k3 k4 hN b c (by omega) with ⟨pg, s2, m, hr, hF, sp, hg, hd, hl, hx, hq⟩ | ⟨s2, hr, hF, hg, hd, hl, hx⟩ | ⟨s2, hk, hr, hF, hw2, hl, hx⟩
          · rw [hr]
            refine .done ps pg rfl ⟨hl.core, fun _ => hg, hl.ru, hl.bnd, h.few, fun m' hm => ?_, put_nodup h.keys, fun e' he => ?_, ?_⟩ hg.nw hd hl hx ⟨s1, cs, hq, b⟩
            · show valQ (putS s2 pg m n v) m' = _
              rw [put_val hF.core.wf sp, getI_put, hF.val, k2.vals _ hm, h.vals _ hm]
            · have : e'.1 ∈ (putI kv n v).map (·.1) := List.mem_map.mpr ⟨e', he, rfl⟩
              have old : e'.1 ∈ kv.map (·.1) → 0 ≤ e'.1 ∧ e'.1 < t.s ∧ t.s ≤ 64 := fun hm => by
                obtain ⟨x, hx, y⟩ := List.mem_map.mp hm
                have := h.rng x hx
                rw [y] at this
                exact this
              rcases mem_put.mp this with y | y
              · exact old y
              · rw [y]; exact ⟨hn.1, hn.2, hs⟩
            · have hl2 : (putI kv n v).length = ((putI kv n v).map (·.1)).length := (List.length_map _).symm
              rw [hl2, putI_keys]
              have := h.le
              split
              · rw [List.length_map]; exact this
              · rename_i hni
                rw [List.length_append, List.length_map]
                have : ¬ t.h ≤ (kv.length : Int) := fun y => z ⟨hni, y⟩
                show ((kv.length + 1 : Nat) : Int) ≤ _
                push_cast
                omega
          · rw [hr]
            exact .dark ps [] rfl (h.next hl (fun _ => hg) fun m hm => (hF.val m).trans (k2.vals m hm)) hg.nw hd hl (by rw [List.map_nil, List.append_nil]; exact hx)
          · rw [hr]
            exact .worn ps [] hk rfl (h.next hl (fun y => by rw [hw2] at y; cases y) fun m hm => (hF.val m).trans (k2.vals m hm)) hw2 hl (by rw [List.append_nil]; exact hx)
        · dsimp only at ew
          rw [ew]
          exact .dark ps tos rfl (h.next k1 (fun _ => a) k2.vals) a.nw b k1 c
        · dsimp only at ew
          rw [ew]
          exact .worn ps e hk rfl (h.next k1 (fun y => by rw [a] at y; cases y) k2.vals) a k1 b
/-! names dropped -/
/-! a new store -/
theorem own_new {kd : Kd} {t : Ts} {b p m : Int} {l : List V} {R : Rl} (hk : kd ≠ .plain) (hb : 2 ≤ b ∧ b ≤ 16) (hp : 1 ≤ p ∧ p ≤ 16) (tb : t.b = b ∧ t.p = p) (hi : 0 ≤ t.i ∧ t.i ≤ b - 2) (hz : 1 ≤ t.z) (hh : 0 ≤ t.h ∧ t.h + 1 < t.p * (t.b - 1 - t.i)) (hs : t.s ≤ 64) (hR : R.ok) (hl : kd ≠ .sure → m = 1000000 ∧ l = List.replicate b.toNat .non) :
    OwnU kd t 0 ⟨Pc.new b p m l, Bk.new b p, [], R⟩ [] ∧ 0 ≤ Dq kd t (Pc.new b p m l) (Bk.new b p) ∧ wornQ t (Pc.new b p m l) = false := by
  have rep : ∀ {α : Type} (x : α) (a n : Nat), (List.replicate a x).getD n x = x := fun x a n => by
    rw [List.getD_eq_getElem?_getD, List.getElem?_replicate]
    split <;> rfl
  have hgd : goodQ (Pc.new b p m l) = List.range b.toNat := List.filter_eq_self.mpr fun n _ => by
    show (!(List.replicate b.toNat false).getD n false) = true
    rw [rep]
    rfl
  have hw := wf_new (m := m) (l := l) hb hp
  have ho : OneP (Pc.new b p m l) (Bk.new b p) := fun n _ m _ h1 _ => by
    have := h1.1
    rw [show (Bk.new b p).fil.getD n 0 = 0 from rep _ _ _] at this
    omega
  have hc : clrP (Pc.new b p m l) (Bk.new b p) = b * p := by
    unfold clrP
    rw [hgd]
    have e : ∀ l' : List Nat, (l'.map fun n => (Pc.new b p m l).p - (Bk.new b p).fil.getD n 0).sum = (l'.length : Int) * p := fun l' => by
      induction l' with
      | nil => simp
      | cons a l' ih =>
        rw [List.map_cons, List.sum_cons, ih, show (Bk.new b p).fil.getD a 0 = 0 from rep _ _ _, List.length_cons]
        push_cast
        rw [Int.add_mul, Int.one_mul]
        show p - 0 + _ = _
        omega
    rw [e, List.length_range]
    show ((b.toNat : Nat) : Int) * p = b * p
    rw [Int.toNat_of_nonneg (by omega)]
  have hgl : ((goodQ (Pc.new b p m l)).length : Int) = b := by rw [hgd, List.length_range]; omega
  have hwn : wornQ t (Pc.new b p m l) = false := by
    unfold wornQ
    rw [hgl]
    exact decide_eq_false (by omega)
  have hcr : ∀ n : Nat, (Pc.new b p m l).clr.getD n 0 = 0 := fun n => rep _ _ _
  have core : Core kd t ⟨Pc.new b p m l, Bk.new b p, [], R⟩ := by
    refine ⟨hw, fun z => ?_, ho, tb, ⟨hi.1, by omega⟩, hz, hk, ?_, ?_, fun _ => ⟨fun n _ m' _ => ?_, fun f _ _ g _ h0 => absurd (rep _ _ _) h0⟩, ⟨fun i e he => (by cases he), fun x hx => (by cases hx), fun e he => (by cases he)⟩⟩
    · obtain ⟨e1, e2⟩ := hl z
      subst e1 e2
      exact ⟨fun n => rep _ _ _, fun n => rep _ _ _, rfl⟩
    · show (List.replicate _ _).length = _
      rw [List.length_replicate]
      rfl
    · show (List.replicate _ _).length = _
      rw [List.length_replicate]
      rfl
    · show (Pc.new b p m l).clr.getD n 0 ≤ (Pc.new b p m l).clr.getD m' 0 + t.z
      rw [hcr, hcr]
      omega
  have hD : 0 ≤ Dq kd t (Pc.new b p m l) (Bk.new b p) := by
    have h1 := core.closed
    have h1 : ((goodQ (Pc.new b p m l)).length : Int) - resvQ kd t (Pc.new b p m l) = t.b - 1 - t.i := h1
    unfold Dq
    rw [hc]
    have h2 : resvQ kd t (Pc.new b p m l) * p ≤ b * p := Int.mul_le_mul_of_nonneg_right (by omega) (by omega)
    show 0 ≤ b * p - resvQ kd t (Pc.new b p m l) * p
    omega
  exact ⟨⟨core, fun nw => Gs.of core nw hD, hR, ⟨Nat.le_refl _, by show (1 : Int) ≤ _; omega, Nat.le_refl _⟩, hh.2, fun m _ => rfl, .nil, fun e he => (by cases he), hh.1⟩, hD, hwn⟩
/-! ### the rules Rule, Fewest, Eldest -/
def fk (kind : Int) (t : Tal) : Int := if kind = 0 then 0 else if kind = 1 then t.l else t.o
def gk (kind : Int) : Int → Int → Tal → Tal → Bool := fun _ _ t u => decide (fk kind t < fk kind u)
theorem ok_Fewest_goes_ahead (T : Txt K mg) : FO P w K mg base 1 T.a_Fewest_goes_ahead T.fd_Fewest_goes_ahead ["self", "one", "other", "pages", "now"] (spGA (gk 1)) := by
  have sc := sc_Fewest_goes_ahead
  refine T.F_Fewest_goes_ahead.okX sc (fun vs H Q E h => ?_) (fun cdv A outer s H vs Q E hr h => ?_)
  · obtain ⟨_, _, _, _, _, _, _, rfl, _⟩ := h
    rfl
  · obtain ⟨self, one, other, t, u, pages, now, rfl, ⟨a, rfl, h1⟩, ⟨b, rfl, h2⟩, o1, o2, hpn, q⟩ := h
    refine ⟨_, (pss_one (ps_ret (pe_cmpR op_uLt (pe_ix ix_seq (pv 1) pe_int (fun _ _ => rfl)) (pe_ix ix_seq (pv 2) pe_int (fun _ _ => rfl)) (nomark _)))), ?_⟩
    walk_at "begin"
    walk_at "go"
    exact q H fun _ _ h => h
theorem ok_Eldest_goes_ahead (T : Txt K mg) : FO P w K mg base 1 T.a_Eldest_goes_ahead T.fd_Eldest_goes_ahead ["self", "one", "other", "pages", "now"] (spGA (gk 2)) := by
  have sc := sc_Eldest_goes_ahead
  refine T.F_Eldest_goes_ahead.okX sc (fun vs H Q E h => ?_) (fun cdv A outer s H vs Q E hr h => ?_)
  · obtain ⟨_, _, _, _, _, _, _, rfl, _⟩ := h
    rfl
  · obtain ⟨self, one, other, t, u, pages, now, rfl, ⟨a, rfl, h1⟩, ⟨b, rfl, h2⟩, o1, o2, hpn, q⟩ := h
    refine ⟨_, (pss_one (ps_ret (pe_cmpR op_uLt (pe_ix ix_seq (pv 1) pe_int (fun _ _ => rfl)) (pe_ix ix_seq (pv 2) pe_int (fun _ _ => rfl)) (nomark _)))), ?_⟩
    walk_at "begin"
    walk_at "go"
    exact q H fun _ _ h => h
theorem rl_Fewest (T : Txt K mg) {H : Hp} {r dx : Addr} (h : H r = some (.ins T.C_Fewest dx [])) : RlAt P w K mg base H [r] r (.by (gk 1)) := ⟨T.C_Fewest, ⟨ruleOb1 h ⟨⟨_, _, _, T.cl_Fewest, T.m_Fewest_goes_ahead, (ok_Fewest_goes_ahead T).mono (by decide), T.bd_Fewest_goes_ahead⟩⟩, dx, _, h⟩, T.cl_Fewest, ⟨⟨_, _, _, T.cl_Fewest, T.m_Fewest_choose, (ok_Rule_choose T).imp fun _ _ _ _ h => chBy h, T.bd_Rule_choose⟩⟩⟩
theorem rl_Eldest (T : Txt K mg) {H : Hp} {r dx : Addr} (h : H r = some (.ins T.C_Eldest dx [])) : RlAt P w K mg base H [r] r (.by (gk 2)) := ⟨T.C_Eldest, ⟨ruleOb1 h ⟨⟨_, _, _, T.cl_Eldest, T.m_Eldest_goes_ahead, (ok_Eldest_goes_ahead T).mono (by decide), T.bd_Eldest_goes_ahead⟩⟩, dx, _, h⟩, T.cl_Eldest, ⟨⟨_, _, _, T.cl_Eldest, T.m_Eldest_choose, (ok_Rule_choose T).imp fun _ _ _ _ h => chBy h, T.bd_Rule_choose⟩⟩⟩
/-! a chip's terms -/
theorem x_tinit {T : Txt K mg} {H H1 : Hp} {Q : VK} {E : XK} {x dx : Addr} {b p s h i z : Int} (hB : 2 ≤ b ∧ b ≤ 16) (hP : 1 ≤ p ∧ p ≤ 16) (hS : 1 ≤ s ∧ s ≤ 64) (hI : 0 ≤ i ∧ i ≤ b - 2) (hZ : 1 ≤ z ∧ z ≤ 1000000) (hH : 1 ≤ h ∧ h ≤ (b - 1 - i) * p - 2) (hx : H x = none) (hs : Same H H1) (hn : H1 x = some (.ins T.C_Terms dx []))
    (q : ∀ dt H', Same H H' → H' x = some (.ins T.C_Terms dt (termF ⟨b, p, s, h, i, z⟩)) → Q .non H') : spTInit T [.ref x, .int b, .int p, .int s, .int h, .int i, .int z] H1 Q E := by
  refine ⟨x, dx, _, _, _, _, _, _, some b, some p, some s, some h, some i, some z, rfl, hn, .int b, .int p, .int s, .int h, .int i, .int z, .inl ⟨?_, fun H' hO hT => ?_⟩⟩
  · show (decide (2 ≤ b ∧ b ≤ 16) && decide (1 ≤ p ∧ p ≤ 16) && decide (1 ≤ s ∧ s ≤ 64) && decide (0 ≤ i ∧ i ≤ b - 2) && decide (1 ≤ z ∧ z ≤ 1000000) && decide (1 ≤ h ∧ h ≤ (b - 1 - i) * p - 2)) = true
    rw [decide_eq_true hB, decide_eq_true hP, decide_eq_true hS, decide_eq_true hI, decide_eq_true hZ, decide_eq_true hH]
    rfl
  · obtain ⟨dt, hT⟩ := hT
    exact q dt H' (Off.same1 hs hO hx) hT
/-! a store is made -/
theorem x_sinitQ {T : Txt K mg} {kd : Kd} {C : Addr} {H H1 : Hp} {Q : VK} {E : XK} {x dx rc rt dt : Addr} {F : CF} {t : Ts} {q : Pc} {R : Rl} {ru : Addr} {rf : List Addr} (hk : kd ≠ .plain) (hv : VS T kd C) (hx : H x = none) (hs : Same H H1) (hn : H1 x = some (.ins C dx [])) (hC : ChipP T.C_Chip H rc F q) (hT : H rt = some (.ins T.C_Terms dt (termF t))) (e1 : t.b = q.b) (e2 : t.p = q.p) (d3 : rt ∉ F.all rc) (hw : Wf q (Bk.new q.b q.p)) (hR : RlAt P w K mg base H rf ru R) (hrf : ∀ a ∈ rf, a ∉ F.all rc ∧ a ≠ rt)
    (k : ∀ G H', Same H H' → G.rc = rc → G.fc = F → G.rt = rt → G.rf = rf → G.ru = ru → G.fp = [] → (∀ a ∈ G.fb.all G.rb, H a = none) → H G.pa = none → SP P w base T kd C H' x G t ⟨q, Bk.new q.b q.p, [], R⟩ → Q .non H') : spSInitQ T P w base [.ref x, .ref rc, .ref rt, .ref ru] H1 Q E := by
  have hC1 := hC.mono hs
  have nxF : x ∉ F.all rc := hC.fresh hx
  have nxt : x ≠ rt := (ne_of_none hT hx).symm
  refine ⟨kd, C, x, dx, rc, F, rt, dt, t, q, R, ru, rf, rfl, hk, hv, hn, hC1, hs _ _ hT, e1, e2, nxF, nxt, d3, hw, hR.mono hs, fun a ha => ⟨(hrf a ha).1, fun z => ?_, (hrf a ha).2⟩, fun G H' hO g1 g2 g3 g4 g5 g6 g7 g8 g9 g10 hP => ?_⟩
  · obtain ⟨o, e, _⟩ := hR.there a ha
    rw [z, hx] at e
    cases e
  · exact k G H' (Off.same1 hs hO hx) g2 g3 g4 g7 g6 g8 (fun a ha => same_none hs (g9 a ha)) (same_none hs (g10 hk)) hP
/-! a law's store and its dict of what is kept -/
structure LS (P : Program) (w : World) (K : PySem.W.Frag) (mg : Str → Option Value) (base : Heap) (T : Txt K mg) (kd : Kd) (C : Addr) (H0 H : Hp) (r : Addr) (G : PG) (t : Ts) (s : St) (d : Addr) (f : Int → V) (kv : List (Int × Int)) : Prop where
  sp : SP P w base T kd C H r G t s
  hd : H d = some (.dK (kvF f kv))
  same : Same H0 H
  nG : ∀ a ∈ G.all kd, H0 a = none
  nd : H0 d = none
  n1 : d ∉ G.all kd
  n2 : d ∉ G.fp
  nF : ∀ a ∈ G.fp, H0 a = none
section
variable {T : Txt K mg} {kd : Kd} {C : Addr} {H0 H H' : Hp} {r : Addr} {G G' : PG} {t : Ts} {s s' : St} {d : Addr} {f : Int → V} {kv kv' : List (Int × Int)}
theorem LS.mono (h : LS P w K mg base T kd C H0 H r G t s d f kv) (e : Same H H') : LS P w K mg base T kd C H0 H' r G t s d f kv := ⟨h.sp.mono e, e _ _ h.hd, h.same.trans e, h.nG, h.nd, h.n1, h.n2, h.nF⟩
theorem LS.ask (h : LS P w K mg base T kd C H0 H r G t s d f kv) (x : Ext H G G') (o : Off (G.all kd) H H') (p : SP P w base T kd C H' r G' t s') : LS P w K mg base T kd C H0 H' r G' t s' d f kv :=
  ⟨p, o.at h.hd h.n1, Off.same h.same o h.nG, by rw [x.all]; exact h.nG, h.nd, by rw [x.all]; exact h.n1, fun z => (x.fresh d z).elim h.n2 fun y => (by rw [h.hd] at y; cases y), fun a ha => (x.fresh a ha).elim (h.nF a) fun y => same_none h.same y⟩
theorem LS.add (h : LS P w K mg base T kd C H0 H r G t s d f kv) {p : Addr} {o : HO} (e : H p = some o) (n1 : p ∉ G.all kd) (n2 : d ≠ p) (n3 : p ∉ G.fp) : LS P w K mg base T kd C (upd H0 p o) H r G t s d f kv :=
  ⟨h.sp, h.hd, fun b u hb => by
    by_cases z : b = p
    · rw [z, upd_same] at hb
      rw [z, e]; exact hb
    · rw [upd_ne z] at hb
      exact h.same b u hb, fun a ha => by rw [upd_ne (fun z => n1 (by rw [← z]; exact ha))]; exact h.nG a ha, by rw [upd_ne n2]; exact h.nd, h.n1, h.n2, fun a ha => by rw [upd_ne (fun z => n3 (by rw [← z]; exact ha))]; exact h.nF a ha⟩
/-- a list of the law's own changes -/
theorem LS.setL (h : LS P w K mg base T kd C H0 H r G t s d f kv) {p : Addr} {xs ys : List V} (h0 : H0 p = some (.lst xs)) (o : Off [p] H H') (e : H' p = some (.lst ys)) : LS P w K mg base T kd C (upd H0 p (.lst ys)) H' r G t s d f kv := by
  have hp := h.same _ _ h0
  have tt : TupS H H' := fun a xs ha => o.at ha (nin_of (fun z => by rw [z, hp] at ha; cases ha))
  have ng : ∀ a, H0 a = none → a ≠ p := fun a ha z => by rw [z, h0] at ha; cases ha
  refine ⟨h.sp.off o (fun a ha => nin_of (ng a (h.nG a ha))) (fun a ha => nin_of (ng a (h.nF a ha))) (nin_of (fun z => ?_)) (nin_of (fun z => ?_)) tt, o.at h.hd (nin_of (ng d h.nd)), fun b u hb => ?_, fun a ha => ?_, ?_, h.n1, h.n2, fun a ha => ?_⟩
  · have := h.sp.obj
    rw [z, hp] at this
    cases this
  · have := h.sp.terms
    rw [z, hp] at this
    cases this
  · by_cases z : b = p
    · rw [z, upd_same] at hb
      rw [z, e]; exact hb
    · rw [upd_ne z] at hb
      exact o.at (h.same b u hb) (nin_of z)
  · rw [upd_ne (ng a (h.nG a ha))]; exact h.nG a ha
  · rw [upd_ne (ng d h.nd)]; exact h.nd
  · rw [upd_ne (ng a (h.nF a ha))]; exact h.nF a ha
end
/-! ### classes of stores -/
theorem VStore (T : Txt K mg) (h : kdOk .store) : VS T .store T.C_Store where
  ok := h
  cl := T.cl_Store
  n1 := T.na_Store_chip
  n2 := T.na_Store_terms
  n3 := T.na_Store_book
  n4 := fun _ => T.na_Store_rule
  n5 := fun _ => T.na_Store_papers
  good := T.m_Store_good
  free := T.m_Store_free
  part := T.m_Store_part
  reserve := T.m_Store_reserve
  ready := T.m_Store_ready
  spot := T.m_Store_spot
  set_down := T.m_Store_set_down
  lay := T.m_Store_lay
  make_ready := T.m_Store_make_ready
  need_sheet := T.m_Store_need_sheet
  held := T.m_Store_held
  write := T.m_Store_write
  read := T.m_Store_read
  space := fun _ => T.m_Store_space
  tally := fun _ => T.m_Store_tally
  full_ones := fun _ => T.m_Store_full_ones
  options := fun _ => T.m_Store_options
  otherwise := fun _ => T.m_Store_otherwise
  choice := fun _ => T.m_Store_choice
  value_for := fun _ => T.m_Store_value_for
  moved := fun _ => T.m_Store_moved
  wiped := fun _ => T.m_Store_wiped
  make_room := fun _ => T.m_Store_make_room
  take := fun _ => T.m_Store_take
/-! ### a law's asks of any store but a plain one -/
theorem Core.left {kd : Kd} {t : Ts} {s : St} (h : Core kd t s) (x : Option Int) : Core kd t { s with q := { s.q with left := x } } :=
  ⟨h.wf.chip rfl rfl rfl rfl (Nat.le_refl _), fun hk => ⟨(h.hl hk).br, (h.hl hk).ls, (h.hl hk).m⟩, h.one, h.tb, h.ti, h.tz, h.kn, h.br, h.cl, fun hk => ⟨(h.ev hk).gap, (h.ev hk).old⟩, ⟨h.cn.cl, h.cn.ct, h.cn.bd⟩⟩
theorem Dq_left {kd : Kd} {t : Ts} {q : Pc} {k : Bk} {x : Option Int} : Dq kd t { q with left := x } k = Dq kd t q k := by cases kd <;> rfl
theorem Gs.left {kd : Kd} {t : Ts} {s : St} (h : Gs kd t s) (x : Option Int) : Gs kd t { s with q := { s.q with left := x } } := by
  refine ⟨h.core.left x, h.nw, ?_, fun z => ?_⟩
  · show -s.q.p ≤ Dq kd t { s.q with left := x } s.k
    rw [Dq_left]; exact h.lo
  · have z : Dq kd t { s.q with left := x } s.k < 0 := z
    rw [Dq_left] at z
    obtain ⟨n, a, b, c, d⟩ := h.fl z
    refine ⟨n, a, b, ?_, d⟩
    show _ ≤ Dq kd t { s.q with left := x } s.k + s.q.p
    rw [Dq_left]; exact c
theorem OwnU.left {kd : Kd} {t : Ts} {N : Nat} {s : St} {kv : List (Int × Int)} (h : OwnU kd t N s kv) (x : Option Int) : OwnU kd t N { s with q := { s.q with left := x } } kv :=
  ⟨h.core.left x, fun nw => (h.gs nw).left x, h.ru, ⟨h.bnd.log, h.bnd.stamp, h.bnd.pp⟩, h.few, h.vals, h.keys, h.rng, h.le⟩
/-! ### an ask with power on, where no block fails -/
theorem out_ok {T : Txt K mg} {α : Type} {a : α} {f : α → Hp → Prop} {E : XK} {H : Hp} (h : f a H) : Out T (.ok a) f E H := h
/-! ### a law's store, without a dict beside -/
structure LB (P : Program) (w : World) (K : PySem.W.Frag) (mg : Str → Option Value) (base : Heap) (T : Txt K mg) (kd : Kd) (C : Addr) (H0 H : Hp) (r : Addr) (G : PG) (t : Ts) (s : St) : Prop where
  sp : SP P w base T kd C H r G t s
  same : Same H0 H
  nG : ∀ a ∈ G.all kd, H0 a = none
  nF : ∀ a ∈ G.fp, H0 a = none
section
variable {T : Txt K mg} {kd : Kd} {C : Addr} {H0 H H' : Hp} {r : Addr} {G G' : PG} {t : Ts} {s s' : St} {kv : List (Int × Int)} {N : Nat} {Q : VK} {E : XK}
theorem LB.mono (h : LB P w K mg base T kd C H0 H r G t s) (e : Same H H') : LB P w K mg base T kd C H0 H' r G t s := ⟨h.sp.mono e, h.same.trans e, h.nG, h.nF⟩
theorem LB.ask (h : LB P w K mg base T kd C H0 H r G t s) (x : Ext H G G') (o : Off (G.all kd) H H') (p : SP P w base T kd C H' r G' t s') : LB P w K mg base T kd C H0 H' r G' t s' :=
  ⟨p, Off.same h.same o h.nG, by rw [x.all]; exact h.nG, fun a ha => (x.fresh a ha).elim (h.nF a) fun y => same_none h.same y⟩
theorem LB.add (h : LB P w K mg base T kd C H0 H r G t s) {p : Addr} {o : HO} (e : H p = some o) (n1 : p ∉ G.all kd) (n3 : p ∉ G.fp) : LB P w K mg base T kd C (upd H0 p o) H r G t s :=
  ⟨h.sp, fun b u hb => by
    by_cases z : b = p
    · rw [z, upd_same] at hb
      rw [z, e]; exact hb
    · rw [upd_ne z] at hb
      exact h.same b u hb, fun a ha => by rw [upd_ne (fun z => n1 (by rw [← z]; exact ha))]; exact h.nG a ha, fun a ha => by rw [upd_ne (fun z => n3 (by rw [← z]; exact ha))]; exact h.nF a ha⟩
theorem LB.new (h : LB P w K mg base T kd C H0 H r G t s) (hk : kd ≠ .plain) {p : Addr} {o : HO} (e0 : H p = none) (e : H' p = some o) (e1 : Same H H') : LB P w K mg base T kd C (upd H0 p o) H' r G t s := (h.mono e1).add e (h.sp.fresh e0) (h.sp.freshF hk e0)
theorem LB.setL (h : LB P w K mg base T kd C H0 H r G t s) {p : Addr} {xs ys : List V} (h0 : H0 p = some (.lst xs)) (o : Off [p] H H') (e : H' p = some (.lst ys)) : LB P w K mg base T kd C (upd H0 p (.lst ys)) H' r G t s := by
  have hp := h.same _ _ h0
  have tt : TupS H H' := fun a xs ha => o.at ha (nin_of (fun z => by rw [z, hp] at ha; cases ha))
  have ng : ∀ a, H0 a = none → a ≠ p := fun a ha z => by rw [z, h0] at ha; cases ha
  refine ⟨h.sp.off o (fun a ha => nin_of (ng a (h.nG a ha))) (fun a ha => nin_of (ng a (h.nF a ha))) (nin_of (fun z => ?_)) (nin_of (fun z => ?_)) tt, fun b u hb => ?_, fun a ha => ?_, fun a ha => ?_⟩
  · have := h.sp.obj
    rw [z, hp] at this
    cases this
  · have := h.sp.terms
    rw [z, hp] at this
    cases this
  · by_cases z : b = p
    · rw [z, upd_same] at hb
      rw [z, e]; exact hb
    · rw [upd_ne z] at hb
      exact o.at (h.same b u hb) (nin_of z)
  · rw [upd_ne (ng a (h.nG a ha))]; exact h.nG a ha
  · rw [upd_ne (ng a (h.nF a ha))]; exact h.nF a ha
theorem LB.papers (hk : kd ≠ .plain) (h : LB P w K mg base T kd C H0 H r G t s) : ∃ pv, H G.pa = some (.lst pv) ∧ pv.length = s.pp.length := by
  obtain ⟨pv, a, b, _⟩ := h.sp.pap hk
  exact ⟨pv, a, b⟩
end
/-! ### the least and the greatest of numbers; all blocks' counts -/
--#CUT
/-! ### a comprehension over a tuple; a tuple's slice -/
section
open PySem L2 Kit
variable {K : PySem.W.Frag} {σ : L2.St} {H : Hp} {g : TG} {tt : TT} {te tl : TE} {vs : List Nat} {a : Addr} {Q : VK} {xs : List V}
def lcT (K : PySem.W.Frag) (g : TG) (tt : TT) (te : TE) (vs : List Nat) (σ : L2.St) (Q : VK) : V → Hp → Prop := fun x H1 => ∃ a, x = .ref a ∧ (∃ xs, SqT K H1 a xs) ∧ lcK (Itt K a) g tt te vs σ Q H1
theorem x_lcT (h : tl σ H (lcT K g tt te vs σ Q)) : tLc (iTup K tl) g tt te vs σ H Q := h
theorem x_lcTK (hq : H a = some (.tup xs)) (A : Nat → List V → Hp → Prop) (hA : ∀ i acc H H', TupS H H' → A i acc H → A i acc H') (hn : xs.length < sizeLine) (h0 : A 0 [] H)
    (hs : ∀ i x acc H', xs[i]? = some x → Same H H' → A i acc H' → LcTurn g tt te vs σ A i x acc H')
    (hd : ∀ p acc H', H p = none → Same H H' → H' p = some (.lst acc) → A xs.length acc H' → Q (.ref p) H') : lcT K g tt te vs σ Q (.ref a) H :=
  ⟨a, rfl, ⟨_, SqT.of hq⟩, lc_gen (fun i x => xs[i]? = some x) A hA hn h0 (fun Pv Dr hP p0 ht hd => lc_tup (K := K) (a := a) (xs := xs) Pv p0 (fun i H' _ p => SqT.of (hP i H' p _ _ hq)) ht hd) hs (fun i x h => (List.getElem?_eq_some_iff.mp h).1) hd⟩
end
local macro_rules | `(tactic| walk_at "u") => `(tactic| with_reducible refine x_lcT ?_)
/-! ### min of three whole numbers -/
section
open PySem PySem.Spec PyProof.Rows L2 Kit
def uMin3 : List V → Hp → VK → Prop := fun xs H Q => ∃ i j k, xs = [.int i, .int j, .int k] ∧ Q (.int (if j < i then (if k < j then k else j) else (if k < i then k else i))) H
theorem cr_umin3 {X : Cx} (hc : X.calm = true := by rfl) : CallR X (.builtin "min") uMin3 := by
  intro pins s σ H xs us Q I r h
  obtain ⟨i, j, k, rfl, q⟩ := h
  cases r with
  | cons r1 r2 =>
  obtain ⟨v, w', rfl, ⟨t', rfl⟩, ⟨t'', rfl⟩⟩ := vals2 r2
  obtain ⟨t, rfl⟩ := r1
  refine min_three_ints (I.ok.hd hc) fun h' tk kk => ⟨_, H, I.kept kk, ?_, q⟩
  by_cases h1 : j < i
  · rw [if_pos h1, if_pos h1]
    by_cases h2 : k < j
    · rw [if_pos h2, if_pos h2]; exact ⟨_, rfl⟩
    · rw [if_neg h2, if_neg h2]; exact ⟨_, rfl⟩
  · rw [if_neg h1, if_neg h1]
    by_cases h2 : k < i
    · rw [if_pos h2, if_pos h2]; exact ⟨_, rfl⟩
    · rw [if_neg h2, if_neg h2]; exact ⟨_, rfl⟩
theorem x_min3 {i j k : Int} {H : Hp} {Q : VK} (q : Q (.int (if j < i then (if k < j then k else j) else (if k < i then k else i))) H) : uMin3 [.int i, .int j, .int k] H Q := ⟨i, j, k, rfl, q⟩
end
local macro_rules | `(tactic| walk_at "u") => `(tactic| with_reducible refine x_min3 ?_)
/-! ### a store that was only filled: what its blocks are like -/
theorem range_lt {n k : Nat} (h : k ≤ n) : (List.range n).filter (fun j => decide (j < k)) = List.range k := by
  obtain ⟨d, rfl⟩ : ∃ d, n = k + d := ⟨n - k, by omega⟩
  rw [List.range_add, List.filter_append, List.filter_eq_self.mpr fun j hj => decide_eq_true (List.mem_range.mp hj), List.filter_eq_nil_iff.mpr fun j hj => ?_, List.append_nil]
  obtain ⟨x, _, rfl⟩ := List.mem_map.mp hj
  rw [decide_eq_false (by omega)]
  decide
def flN (p n : Int) (m : Int) : Int := if n - m * p < 0 then 0 else if p ≤ n - m * p then p else n - m * p
def bnN (p n : Int) (m : Int) : Int := if 0 < flN p n m then m * p + 1 else 0
def talN (p n : Int) (m : Nat) : Tal := ⟨m, flN p n m, 0, bnN p n m⟩
theorem flN_rng {p n m : Int} (hp : 1 ≤ p) : 0 ≤ flN p n m ∧ flN p n m ≤ p := by
  unfold flN
  split
  · omega
  · split <;> omega
theorem flN_step {p N : Int} (hp : 1 ≤ p) {m j : Nat} (e : (m : Int) * p + flN p N m = N) (hlt : flN p N m < p) : flN p (N + 1) j = if j = m then flN p N m + 1 else flN p N j := by
  have hr := flN_rng (p := p) (n := N) (m := m) hp
  generalize flN p N m = f at e hlt hr
  by_cases z : j = m
  · subst z
    rw [if_pos rfl]
    unfold flN
    generalize (j : Int) * p = x at *
    rw [if_neg (by omega)]
    split <;> omega
  · rw [if_neg z]
    by_cases y : j < m
    · obtain ⟨d, rfl⟩ : ∃ d, m = j + 1 + d := ⟨m - j - 1, by omega⟩
      have hd : 0 ≤ (d : Int) * p := Int.mul_nonneg (by omega) (by omega)
      have : ((j + 1 + d : Nat) : Int) * p = (j : Int) * p + p + (d : Int) * p := by push_cast; rw [Int.add_mul, Int.add_mul, Int.one_mul]
      rw [this] at e
      unfold flN
      generalize (j : Int) * p = x at *
      generalize (d : Int) * p = w at *
      rw [if_neg (by omega), if_pos (by omega), if_neg (by omega), if_pos (by omega)]
    · obtain ⟨d, rfl⟩ : ∃ d, j = m + 1 + d := ⟨j - m - 1, by omega⟩
      have hd : 0 ≤ (d : Int) * p := Int.mul_nonneg (by omega) (by omega)
      have : ((m + 1 + d : Nat) : Int) * p = (m : Int) * p + p + (d : Int) * p := by push_cast; rw [Int.add_mul, Int.add_mul, Int.one_mul]
      unfold flN
      rw [this]
      generalize (m : Int) * p = x at *
      generalize (d : Int) * p = w at *
      split
      · split <;> omega
      · split <;> split <;> omega
structure Fil (t : Ts) (N : Nat) (s : St) (kv : List (Int × Int)) : Prop where
  own : OwnU .store t N s kv
  len : kv.length = N
  left : s.q.left = none
  dq : (t.b - 1 - t.i) * t.p - (N : Int) ≤ Dq .store t s.q s.k
  pp : s.pp = []
  fil : ∀ m : Nat, m < s.q.b.toNat → s.k.fil.getD m 0 = flN t.p N m
  liv : ∀ m : Nat, m < s.q.b.toNat → s.k.live.getD m 0 = flN t.p N m
  born : ∀ m : Nat, m < s.q.b.toNat → s.k.born.getD m 0 = bnN t.p N m
  st : s.k.stamp = (N : Int) + 1
  log : s.q.log.length = N
  clr : ∀ m : Nat, s.q.clr.getD m 0 = 0
theorem Fil.spot {t : Ts} {N : Nat} {s : St} {kv : List (Int × Int)} (h : Fil t N s kv) {pg : Int} {m : Nat} (sp : Spot s.q s.k pg m) : (m : Int) * t.p + flN t.p N m = N ∧ flN t.p N m < t.p := by
  have ep := h.own.core.tb.2
  have hp := h.own.core.pos
  have hg := (h.own.core.hl (fun z => by cases z)).good
  have f1 := sp.f1
  rw [h.fil m sp.lt, ← ep] at f1
  refine ⟨?_, f1⟩
  have hr := flN_rng (p := t.p) (n := N) (m := m) (by omega)
  rcases sp.kind.2 with z | ⟨h0, hno⟩
  · have z0 := z.1
    rw [h.fil m sp.lt] at z0
    unfold flN at z0 f1 ⊢
    generalize (m : Int) * t.p = x at *
    split at z0
    · omega
    · rename_i a
      rw [if_neg a] at f1 ⊢
      split at f1
      · omega
      · rename_i b
        rw [if_neg b]
        omega
  · rw [h.fil m sp.lt] at h0
    rw [h0]
    have hle : (N : Int) ≤ (m : Int) * t.p := by
      unfold flN at h0
      generalize (m : Int) * t.p = x at *
      split at h0
      · omega
      · split at h0 <;> omega
    refine Decidable.byContradiction fun hne => ?_
    have hlt : (N : Int) < (m : Int) * t.p := by omega
    obtain ⟨p, ep2⟩ : ∃ p : Nat, t.p = (p : Int) := ⟨t.p.toNat, by omega⟩
    have hp1 : 1 ≤ p := by omega
    have hlt2 : N < m * p := by rw [ep2] at hlt; exact_mod_cast hlt
    have hm : N / p < m := (Nat.div_lt_iff_lt_mul (by omega)).mpr hlt2
    have hmb : N / p < s.q.b.toNat := Nat.lt_trans hm sp.lt
    have hdm : N / p * p + N % p = N := by rw [Nat.mul_comm]; exact Nat.div_add_mod N p
    have hmod : N % p < p := Nat.mod_lt _ (by omega)
    have efl : s.k.fil.getD (N / p) 0 = ((N % p : Nat) : Int) := by
      rw [h.fil _ hmb, ep2]
      unfold flN
      have : ((N / p : Nat) : Int) * (p : Int) = ((N / p * p : Nat) : Int) := by push_cast; rfl
      rw [this]
      rw [if_neg (by omega), if_neg (by omega)]
      omega
    have hmg : N / p ∈ goodQ s.q := by rw [hg]; exact List.mem_range.mpr hmb
    by_cases z : N % p = 0
    · have hn := sp.next
      unfold nextQ at hn
      rw [hno] at hn
      dsimp only at hn
      cases hs : sortP (freeQ s.q s.k) with
      | nil => rw [hs] at hn; cases hn
      | cons e l =>
        rw [hs] at hn
        have he : e.2.toNat = m := by injection hn
        have hem : e ∈ freeQ s.q s.k := (sortP_perm _).mem_iff.mp (by rw [hs]; exact List.mem_cons_self)
        obtain ⟨j, hj, rfl⟩ := List.mem_map.mp hem
        have hj2 : j = m := by simpa using he
        have hxm : (s.q.clr.getD (N / p) 0, ((N / p : Nat) : Int)) ∈ freeQ s.q s.k := by
          refine List.mem_map.mpr ⟨N / p, List.mem_filter.mpr ⟨hmg, ?_⟩, rfl⟩
          rw [efl, z]
          rfl
        have hxs := (sortP_perm _).mem_iff.mpr hxm
        rw [hs] at hxs
        have hpw := sortP_pw (freeQ s.q s.k)
        rw [hs] at hpw
        rcases List.mem_cons.mp hxs with y | y
        · have := congrArg Prod.snd y
          have : ((N / p : Nat) : Int) = (j : Int) := this
          omega
        · have := leP_iff.mp ((List.pairwise_cons.mp hpw).1 _ y)
          rw [h.clr, h.clr] at this
          have : (0 : Int) < 0 ∨ (0 : Int) = 0 ∧ (j : Int) ≤ ((N / p : Nat) : Int) := this
          omega
    · exact partQ_none.mp hno (N / p) hmg ⟨by rw [efl]; omega, by rw [efl, ← ep, ep2]; omega⟩
theorem Fil.room {t : Ts} {N : Nat} {s : St} {kv : List (Int × Int)} (h : Fil t N s kv) (hN : (N : Int) ≤ t.h) : 0 < Dq .store t s.q s.k := by
  have h1 := h.own.few
  have h2 := h.dq
  rw [Int.mul_comm] at h1
  omega
theorem Fil.ready {t : Ts} {N : Nat} {s : St} {kv : List (Int × Int)} (h : Fil t N s kv) (hN : (N : Int) ≤ t.h) : readyQ .store t s.q s.k = true := by
  rw [h.own.core.ready]
  exact decide_eq_true (h.room hN)
theorem Fil.next {t : Ts} {N : Nat} {s : St} {kv : List (Int × Int)} (h : Fil t N s kv) (hN : (N : Int) < t.h) (hN2 : N ≤ 2000) {n v : Int} (hn : 0 ≤ n ∧ n < t.s) (hs : t.s ≤ 64) (hnew : n ∉ kv.map (·.1)) : ∃ s', writeQ .store t 20 s n v = (.ok (N : Int), s') ∧ Fil t (N + 1) s' (putI kv n v) := by
  have hlen := h.len
  have hR := (h.own.write hN2 (v := v) hn hs).2 (fun z => by have := z.2; omega)
  have e1 : mkReadyQ .store t 20 s = (.ok (), s) := by
    show roomsQ .store t 20 s = _
    unfold roomsQ
    rw [if_pos (h.ready (by omega))]
  have e0 : ¬ (getI s.k.wh n = none ∧ t.h ≤ ((heldL s.k).length : Int)) := fun z => by
    have := z.2
    rw [h.own.perm.1] at this
    omega
  have ew : writeQ .store t 20 s n v = setDown s n v := by
    unfold writeQ
    rw [if_neg e0, e1]
    rfl
  rcases setDown_hl (n := n) (v := v) h.own.core.wf (h.own.core.hl (fun z => by cases z)) with ⟨_, e⟩ | ⟨z, _⟩ | ⟨pg, m, sp, _, e⟩
  · rw [ew, e] at hR
    cases hR with
    | done ps pg hr => cases hr
    | dark ps tos hr => cases hr
    | worn ps e hk => cases hk
  · unfold Pc.dark at z
    rw [h.left] at z
    cases z
  · obtain ⟨f1, f2⟩ := h.spot sp
    have ep := h.own.core.tb.2
    have hp := h.own.core.pos
    have hw := h.own.core.wf
    have ekp := hw.kp
    have ekb := hw.kb
    have epg : pg = (N : Int) := by rw [sp.eq, h.fil m sp.lt, ← ep]; exact f1
    rw [ew, e] at hR
    refine ⟨_, by rw [ew, e, epg], ?_⟩
    rw [epg] at hR sp
    cases hR with
    | dark ps tos hr => cases hr
    | worn ps e hk => cases hk
    | done ps pg' hr ho nw hd hl hx hq =>
      have hps : ps = [] := by
        have := hl.pp
        have e2 : (putS s (N : Int) m n v).pp = s.pp := rfl
        rw [e2, h.pp] at this
        simpa using this.symm
      subst hps
      obtain ⟨s2, st, hq, _⟩ := hq
      have e2 : s2 = s := by cases st; rfl
      subst e2
      have eg : getI s2.k.wh n = none := (h.own.none (n := n) (by omega)).mpr hnew
      have ed : s2.k.drop n = s2.k := by unfold Bk.drop; rw [eg]
      have em : ((N : Int) / s2.k.p).toNat = m := by rw [ekp, sp.blk]; rfl
      have hfm := h.fil m sp.lt
      have stp := fun j : Nat => flN_step (p := t.p) (N := N) (m := m) (j := j) (by omega) f1 f2
      have hbk := hw.bk
      have hml : ∀ {l : List Int}, (l.length : Int) = s2.k.b → m < l.length := fun e => by have := sp.lt; omega
      refine ⟨ho, ?_, ?_, ?_, h.pp, fun j hj => ?_, fun j hj => ?_, fun j hj => ?_, ?_, ?_, h.clr⟩
      · have := congrArg List.length (putI_keys (ps := kv) (n := n) (x := v))
        rw [if_neg hnew, List.length_map, List.length_append, List.length_map] at this
        rw [this, hlen]
        rfl
      · show s2.q.left.map _ = none
        rw [h.left]; rfl
      · have hq : Dq .store t s2.q s2.k ≤ Dq .store t (putS s2 (N : Int) m n v).q (putS s2 (N : Int) m n v).k + 1 := hq
        have h1 := h.dq
        show (t.b - 1 - t.i) * t.p - ((N + 1 : Nat) : Int) ≤ Dq .store t (putS s2 (N : Int) m n v).q (putS s2 (N : Int) m n v).k
        generalize (t.b - 1 - t.i) * t.p = y at *
        omega
      · show ((s2.k.drop n).fil.set ((N : Int) / s2.k.p).toNat _).getD j 0 = flN t.p (((N + 1 : Nat)) : Int) j
        rw [ed, em, hfm, getD_set', show (((N + 1 : Nat)) : Int) = (N : Int) + 1 by push_cast; rfl, stp]
        by_cases z : j = m
        · rw [if_pos ⟨z, hml hbk.fil⟩, if_pos z]
        · rw [if_neg (fun y => z y.1), if_neg z]
          exact h.fil j hj
      · show ((s2.k.drop n).live.set ((N : Int) / s2.k.p).toNat _).getD j 0 = flN t.p (((N + 1 : Nat)) : Int) j
        rw [ed, em, h.liv m sp.lt, getD_set', show (((N + 1 : Nat)) : Int) = (N : Int) + 1 by push_cast; rfl, stp]
        by_cases z : j = m
        · rw [if_pos ⟨z, hml hbk.live⟩, if_pos z]
        · rw [if_neg (fun y => z y.1), if_neg z]
          exact h.liv j hj
      · show (if (s2.k.drop n).fil.getD ((N : Int) / s2.k.p).toNat 0 = 0 then (s2.k.drop n).born.set ((N : Int) / s2.k.p).toNat (s2.k.drop n).stamp else (s2.k.drop n).born).getD j 0 = bnN t.p (((N + 1 : Nat)) : Int) j
        rw [ed, em, hfm, h.st, show (((N + 1 : Nat)) : Int) = (N : Int) + 1 by push_cast; rfl]
        unfold bnN
        rw [stp]
        have hr := flN_rng (p := t.p) (n := N) (m := m) (by omega)
        by_cases z : j = m
        · subst z
          rw [if_pos (rfl : j = j), if_pos (show 0 < flN t.p N j + 1 by omega)]
          by_cases y : flN t.p N j = 0
          · rw [if_pos y, getD_set', if_pos ⟨rfl, hml hbk.born⟩]
            omega
          · rw [if_neg y, h.born j sp.lt]
            unfold bnN
            rw [if_pos (by omega)]
        · rw [if_neg z]
          have hb := h.born j hj
          unfold bnN at hb
          by_cases y : flN t.p N m = 0
          · rw [if_pos y, getD_set', if_neg (fun y => z y.1)]
            exact hb
          · rw [if_neg y]
            exact hb
      · show (s2.k.drop n).stamp + 1 = _
        rw [ed, h.st]
        push_cast
        rfl
      · show (s2.q.log ++ [_]).length = _
        rw [List.length_append, h.log]
        rfl
theorem Fil.tal {t : Ts} {N : Nat} {s : St} {kv : List (Int × Int)} (h : Fil t N s kv) {m : Nat} (hm : m < s.q.b.toNat) : tallyQ s.q s.k m = talN t.p N m := by
  unfold tallyQ talN
  rw [h.liv m hm, h.clr, h.born m hm]
theorem Fil.space {t : Ts} {N : Nat} {s : St} {kv : List (Int × Int)} (h : Fil t N s kv) (hN : (N : Int) ≤ t.h) : spaceQ .store t s.q s.k = t.p := by
  have hr := h.ready hN
  have : resvQ .store t s.q ≤ ((freeQ s.q s.k).length : Int) := by
    unfold readyQ at hr
    cases hp : partQ s.q s.k with
    | none => rw [hp] at hr; have := of_decide_eq_true hr; omega
    | some x => rw [hp] at hr; exact of_decide_eq_true hr
  unfold spaceQ
  rw [if_pos this]
theorem flN_full {p : Nat} (hp : 1 ≤ p) {N j : Nat} : flN p N j = (p : Int) ↔ j < N / p := by
  have h1 : j < N / p ↔ (j + 1) * p ≤ N := by rw [Nat.lt_iff_add_one_le, Nat.le_div_iff_mul_le (by omega)]
  rw [h1]
  have e : ((j : Int)) * (p : Int) = ((j * p : Nat) : Int) := by push_cast; rfl
  unfold flN
  rw [e, Nat.add_mul, Nat.one_mul]
  generalize j * p = x
  constructor
  · intro z
    split at z
    · omega
    · split at z <;> omega
  · intro z
    rw [if_neg (by omega), if_pos (by omega)]
theorem Fil.full {t : Ts} {N : Nat} {s : St} {kv : List (Int × Int)} (h : Fil t N s kv) (hN : (N : Int) ≤ t.h) : fullQ .store t s.q s.k = (List.range (N / t.p.toNat)).map (talN t.p N) ∧ N / t.p.toNat < s.q.b.toNat := by
  have ep := h.own.core.tb.2
  have eb := h.own.core.tb.1
  have hp := h.own.core.pos
  have hi := h.own.core.ti
  have hg := (h.own.core.hl (fun z => by cases z)).good
  obtain ⟨p, ep2⟩ : ∃ p : Nat, t.p = (p : Int) := ⟨t.p.toNat, by omega⟩
  have etn : t.p.toNat = p := by omega
  have hlt : N / p < s.q.b.toNat := by
    refine (Nat.div_lt_iff_lt_mul (by omega)).mpr ?_
    have h1 := h.own.few
    have h2 : t.p * (t.b - 1 - t.i) ≤ t.p * t.b := Int.mul_le_mul_of_nonneg_left (by omega) (by omega)
    have h3 : ((s.q.b.toNat * p : Nat) : Int) = t.b * t.p := by push_cast; rw [ep2, Int.toNat_of_nonneg (by omega), eb]
    rw [Int.mul_comm t.p t.b] at h2
    omega
  rw [etn]
  refine ⟨?_, hlt⟩
  unfold fullQ
  rw [hg, ← range_lt (n := s.q.b.toNat) (k := N / p) (by omega), h.space hN]
  have : (List.range s.q.b.toNat).filter (fun n => decide (s.k.fil.getD n 0 = t.p) && decide (s.k.live.getD n 0 ≤ t.p)) = (List.range s.q.b.toNat).filter (fun j => decide (j < N / p)) := List.filter_congr fun j hj => by
    have hj := List.mem_range.mp hj
    have hr := flN_rng (p := t.p) (n := N) (m := j) (by omega)
    rw [h.fil j hj, h.liv j hj, decide_eq_true (p := flN t.p N j ≤ t.p) hr.2, Bool.and_true, ep2]
    exact decide_eq_decide.mpr (flN_full (by omega))
  rw [this]
  exact List.map_congr_left fun j hj => h.tal (List.mem_range.mp (List.mem_filter.mp hj).1)
theorem Fil.opts {t : Ts} {N : Nat} {s : St} {kv : List (Int × Int)} (h : Fil t N s kv) (hN : (N : Int) ≤ t.h) : optsQ .store t s.q s.k = [] := by
  show (fullQ .store t s.q s.k).filter _ = []
  rw [(h.full hN).1]
  have hp := h.own.core.pos
  have ep := h.own.core.tb.2
  refine List.filter_eq_nil_iff.mpr fun u hu => ?_
  obtain ⟨j, hj, rfl⟩ := List.mem_map.mp hu
  have hj := List.mem_range.mp hj
  obtain ⟨p, ep2⟩ : ∃ p : Nat, t.p = (p : Int) := ⟨t.p.toNat, by omega⟩
  have etn : t.p.toNat = p := by omega
  rw [etn] at hj
  have e : flN t.p N j = t.p := by rw [ep2]; exact (flN_full (by omega)).mpr hj
  show ¬ decide (flN t.p N j < t.p) = true
  rw [e, decide_eq_false (by omega)]
  decide
theorem Fil.rm {t : Ts} {N : Nat} {s : St} {kv : List (Int × Int)} (h : Fil t N s kv) (hN : (N : Int) ≤ t.h) (R : Rl) : choiceQ .store t { s with ru := R } = (none, R) ∧ roomQ .store t { s with ru := R } = (.error .noroom, { s with ru := R }) := by
  have e : choiceQ .store t { s with ru := R } = (none, R) := by
    unfold choiceQ
    show (match optsQ .store t s.q s.k with | [] => _ | u :: us => _) = _
    rw [h.opts hN]
    rfl
  refine ⟨e, ?_⟩
  unfold roomQ
  rw [e]
theorem dq_new {kd : Kd} {t : Ts} {b p m : Int} {l : List V} {R : Rl} {N : Nat} {kv : List (Int × Int)} (hb : 2 ≤ b) (h : OwnU kd t N ⟨Pc.new b p m l, Bk.new b p, [], R⟩ kv) (tb : t.b = b ∧ t.p = p) : Dq kd t (Pc.new b p m l) (Bk.new b p) = (b - 1 - t.i) * p := by
  have rep : ∀ {α : Type} (x : α) (a n : Nat), (List.replicate a x).getD n x = x := fun x a n => by
    rw [List.getD_eq_getElem?_getD, List.getElem?_replicate]
    split <;> rfl
  have hgd : goodQ (Pc.new b p m l) = List.range b.toNat := List.filter_eq_self.mpr fun n _ => by
    show (!(List.replicate b.toNat false).getD n false) = true
    rw [rep]
    rfl
  have hc : clrP (Pc.new b p m l) (Bk.new b p) = b * p := by
    unfold clrP
    rw [hgd]
    have e : ∀ l' : List Nat, (l'.map fun n => (Pc.new b p m l).p - (Bk.new b p).fil.getD n 0).sum = (l'.length : Int) * p := fun l' => by
      induction l' with
      | nil => simp
      | cons a l' ih =>
        rw [List.map_cons, List.sum_cons, ih, show (Bk.new b p).fil.getD a 0 = 0 from rep _ _ _, List.length_cons]
        push_cast
        rw [Int.add_mul, Int.one_mul]
        show p - 0 + _ = _
        omega
    rw [e, List.length_range]
    show ((b.toNat : Nat) : Int) * p = b * p
    rw [Int.toNat_of_nonneg (by omega)]
  have h1 := h.core.closed
  have h1 : ((goodQ (Pc.new b p m l)).length : Int) - resvQ kd t (Pc.new b p m l) = t.b - 1 - t.i := h1
  rw [hgd, List.length_range] at h1
  unfold Dq
  rw [hc]
  show b * p - resvQ kd t (Pc.new b p m l) * p = _
  rw [← Int.sub_mul]
  congr 1
  omega
/-- ahead of the first making -/
theorem rep_getD {α : Type} (x : α) (a n : Nat) : (List.replicate a x).getD n x = x := by
  rw [List.getD_eq_getElem?_getD, List.getElem?_replicate]
  split <;> rfl
theorem flN_zero {p : Int} (hp : 1 ≤ p) {m : Nat} : flN p 0 m = 0 := by
  have : 0 ≤ (m : Int) * p := Int.mul_nonneg (by omega) (by omega)
  unfold flN
  generalize (m : Int) * p = x at *
  split
  · rfl
  · split <;> omega
theorem Fil.new {t : Ts} {b p m : Int} {l : List V} {R : Rl} (h : OwnU .store t 0 ⟨Pc.new b p m l, Bk.new b p, [], R⟩ []) (hd : Dq .store t (Pc.new b p m l) (Bk.new b p) = (b - 1 - t.i) * p) : Fil t 0 ⟨Pc.new b p m l, Bk.new b p, [], R⟩ [] := by
  have e1 : t.b = b := h.core.tb.1
  have e2 : t.p = p := h.core.tb.2
  have hp := h.core.pos
  have hp1 : 1 ≤ t.p := by have : 1 ≤ p := hp.1; omega
  refine ⟨h, rfl, rfl, ?_, rfl, fun m _ => ?_, fun m _ => ?_, fun m _ => ?_, rfl, rfl, fun m => rep_getD _ _ _⟩
  · show (t.b - 1 - t.i) * t.p - ((0 : Nat) : Int) ≤ Dq .store t (Pc.new b p _ l) (Bk.new b p)
    rw [hd, e1, e2]
    omega
  · rw [show ((0 : Nat) : Int) = 0 from rfl, flN_zero hp1]
    exact rep_getD _ _ _
  · rw [show ((0 : Nat) : Int) = 0 from rfl, flN_zero hp1]
    exact rep_getD _ _ _
  · rw [show ((0 : Nat) : Int) = 0 from rfl]
    unfold bnN
    rw [flN_zero hp1]
    exact rep_getD _ _ _
/-! ### the make of a chip -/
structure Sh16 (b p h i : Int) : Prop where
  hb : 2 ≤ b ∧ b ≤ 16
  hp : 1 ≤ p ∧ p ≤ 16
  hi : 0 ≤ i ∧ i ≤ b - 2
  hh : 1 ≤ h ∧ h ≤ (b - 1 - i) * p - 2
theorem sh16_of {c p i h : Int} (hc : 1 ≤ c ∧ c ≤ 15) (hp : 1 ≤ p ∧ p ≤ 16) (hi : 0 ≤ i ∧ i < 16 - c) (hh : 1 ≤ h ∧ h ≤ c * p - 2) : Sh16 (c + 1 + i) p h i :=
  ⟨by omega, hp, by omega, by rw [show c + 1 + i - 1 - i = c by omega]; exact hh⟩
def spSize (K : PySem.W.Frag) : Sp := fun vs H Q _ => ∃ (a : Addr) (ns : List Int), vs = [.ref a] ∧ SqL K H a (ns.map V.int) ∧ ∀ p H' (b g h i : Int), Same H H' → H p = none → H' p = some (.lst [.int b, .int g, .int h, .int i]) → Sh16 b g h i → Q (.ref p) H'
theorem ok_size (T : Txt K mg) : FO P w K mg base 2 T.a__law_size T.fd__law_size ["_law_script"] (spSize K) := by
  have sc := sc__law_size
  refine T.F__law_size.okX sc (fun vs H Q E h => ?_) (fun cdv A outer s H vs Q E hr h => ?_)
  · obtain ⟨_, _, rfl, _⟩ := h
    rfl
  obtain ⟨a, ns, rfl, hS, q⟩ := h
  refine ⟨_, (pss_cons (ps_set (i := 1) sc.nd rfl (by first | exact Or.inl rfl | exact Or.inr rfl) (pe_op op_uAdd pe_int (pe_op op_mod (pe_callS (ok_cell_at T) (hr.mono (by decide)) (by rfl) T.g__law_cell_at T.k__law_cell_at T.bd__law_cell_at (passAt (takes_of rfl rfl rfl rfl)) (pa_cons (pv 0) (pa_cons pe_int pa_nil))) pe_int)))
      (pss_cons (ps_set (i := 2) sc.nd rfl (by first | exact Or.inl rfl | exact Or.inr rfl) (pe_op op_uAdd pe_int (pe_op op_mod (pe_callS (ok_cell_at T) (hr.mono (by decide)) (by rfl) T.g__law_cell_at T.k__law_cell_at T.bd__law_cell_at (passAt (takes_of rfl rfl rfl rfl)) (pa_cons (pv 0) (pa_cons pe_int pa_nil))) pe_int)))
      (pss_cons (ps_if (pt_cmpR op_uLt (pe_op op_uMul (pv 2) (pv 1)) pe_int (nomark _)) (pss_one (ps_set (i := 1) sc.nd rfl (by first | exact Or.inl rfl | exact Or.inr rfl) pe_int)) pss_nil)
      (pss_cons (ps_set (i := 3) sc.nd rfl (by first | exact Or.inl rfl | exact Or.inr rfl) (pe_op op_mod (pe_callS (ok_cell_at T) (hr.mono (by decide)) (by rfl) T.g__law_cell_at T.k__law_cell_at T.bd__law_cell_at (passAt (takes_of rfl rfl rfl rfl)) (pa_cons (pv 0) (pa_cons pe_int pa_nil))) (pe_op op_sub pe_int (pv 2))))
      (pss_cons (ps_set (i := 4) sc.nd rfl (by first | exact Or.inl rfl | exact Or.inr rfl) (pe_op op_sub (pe_op op_uMul (pv 2) (pv 1)) pe_int))
      (pss_cons (ps_if (pt_cmpR (op_uEq hr.units) (pe_op op_mod (pe_callS (ok_cell_at T) (hr.mono (by decide)) (by rfl) T.g__law_cell_at T.k__law_cell_at T.bd__law_cell_at (passAt (takes_of rfl rfl rfl rfl)) (pa_cons (pv 0) (pa_cons pe_int pa_nil))) pe_int) pe_int (nomark _)) (pss_one (ps_set (i := 4) sc.nd rfl (by first | exact Or.inl rfl | exact Or.inr rfl) (pe_op op_uAdd pe_int (pe_op op_mod (pe_op op_fdivW (pe_callS (ok_cell_at T) (hr.mono (by decide)) (by rfl) T.g__law_cell_at T.k__law_cell_at T.bd__law_cell_at (passAt (takes_of rfl rfl rfl rfl)) (pa_cons (pv 0) (pa_cons pe_int pa_nil))) pe_int) (pv 4))))) pss_nil)
      (pss_one (ps_ret (pe_lst (pa_cons (pe_op op_uAdd (pe_op op_uAdd (pv 2) pe_int) (pv 3)) (pa_cons (pv 1) (pa_cons (pv 4) (pa_cons (pv 3) pa_nil))))))))))))), ?_⟩
  have hp : 1 ≤ 1 + cl ns 0 % 16 ∧ 1 + cl ns 0 % 16 ≤ 16 := by omega
  have hc : 1 ≤ 1 + cl ns 1 % 15 ∧ 1 + cl ns 1 % 15 ≤ 15 := by omega
  walk_at "begin"
  walk_at "go"
  generalize 1 + cl ns 0 % 16 = p0 at hp ⊢
  generalize 1 + cl ns 1 % 15 = c at hc ⊢
  have hc16 : 0 < 16 - c := by omega
  refine x_join (fun σ' H' => H' = H ∧ ∃ p : Int, (1 ≤ p ∧ p ≤ 16) ∧ 3 ≤ c * p ∧ σ' = [some (.ref a), some (.int p), some (.int c), none, none]) (fun R hR => ?_) ?_
  · walk_at "go"
    refine x_iteD (fun h3 => ?_) (fun h3 => ?_)
    · walk_at "go"
      exact hR _ _ ⟨rfl, 3, by decide, by omega, rfl⟩
    · walk_at "go"
      exact hR _ _ ⟨rfl, p0, hp, by omega, rfl⟩
  intro σ' H' ⟨e, p, hp, h3, hσ⟩
  subst hσ e
  have hsm : ∀ w : Int, 0 ≤ w % (c * p - 2) ∧ w % (c * p - 2) < c * p - 2 := fun w => ⟨Int.emod_nonneg _ (by omega), Int.emod_lt_of_pos _ (by omega)⟩
  have hs0 : 0 < c * p - 2 := by omega
  have hi : 0 ≤ cl ns 2 % (16 - c) ∧ cl ns 2 % (16 - c) < 16 - c := ⟨Int.emod_nonneg _ (by omega), Int.emod_lt_of_pos _ (by omega)⟩
  walk_at "go"
  generalize cl ns 2 % (16 - c) = i at hi ⊢
  refine x_join (fun σ' H'' => H'' = H' ∧ ∃ h : Int, (1 ≤ h ∧ h ≤ c * p - 2) ∧ σ' = [some (.ref a), some (.int p), some (.int c), some (.int i), some (.int h)]) (fun R hR => ?_) ?_
  · walk_at "go"
    refine x_iteD (fun _ => ?_) (fun _ => ?_)
    · walk_at "go"
      have := hsm (cl ns 3 / 3)
      exact hR _ _ ⟨rfl, _, ⟨by omega, by omega⟩, rfl⟩
    · walk_at "go"
      exact hR _ _ ⟨rfl, _, ⟨by omega, by omega⟩, rfl⟩
  intro σ' H'' ⟨e, h, hh, hσ⟩
  subst hσ e
  walk_at "go"
  rename_i p1 H1 hp1 hs1 hn1
  exact q p1 H1 _ _ _ _ hs1 hp1 hn1 (sh16_of hc hp hi hh)
/-! ### what a block is due -/
def spTallyN : Sp := fun vs H Q _ => ∃ (m : Nat) (p n : Int), vs = [.int (m : Int), .int p, .int n] ∧ 1 ≤ p ∧ p ≤ 16 ∧ ∀ a H', Same H H' → H a = none → H' a = some (.tup (talN p n m).vs) → Q (.ref a) H'
theorem ok_tally (T : Txt K mg) : FO P w K mg base 1 T.a__law_tally T.fd__law_tally ["_law_block", "_law_pages", "_law_many"] spTallyN := by
  have sc := sc__law_tally
  refine T.F__law_tally.okX sc (fun vs H Q E h => ?_) (fun cdv A outer s H vs Q E hr h => ?_)
  · obtain ⟨_, _, _, rfl, _⟩ := h
    rfl
  obtain ⟨m, p, n, rfl, hp, hp2, q⟩ := h
  refine ⟨_, (pss_cons (ps_set (i := 3) sc.nd rfl (by first | exact Or.inl rfl | exact Or.inr rfl) (pe_callB (cr_umin) (by rfl) T.b_min bt_min (pa_cons (pv 1) (pa_cons (pe_callB (cr_umax) (by rfl) T.b_max bt_max (pa_cons pe_int (pa_cons (pe_op op_sub (pv 2) (pe_op op_uMul (pv 0) (pv 1))) pa_nil))) pa_nil))))
      (pss_cons (ps_set (i := 4) sc.nd rfl (by first | exact Or.inl rfl | exact Or.inr rfl) pe_int)
      (pss_cons (ps_if (pt_cmpR op_gt (pv 3) pe_int (nomark _)) (pss_one (ps_set (i := 4) sc.nd rfl (by first | exact Or.inl rfl | exact Or.inr rfl) (pe_op op_uAdd (pe_op op_uMul (pv 0) (pv 1)) pe_int))) pss_nil)
      (pss_one (ps_ret (pe_tup (pa_cons (pv 0) (pa_cons (pv 3) (pa_cons pe_int (pa_cons (pv 4) pa_nil)))))))))), ?_⟩
  have e1 : ∀ x : Int, (if (if x > 0 then x else 0) < p then (if x > 0 then x else 0) else p) = (if x < 0 then 0 else if p ≤ x then p else x) := fun x => by
    split <;> split <;> (try split) <;> (try split) <;> omega
  walk_at "begin"
  walk_at "go"
  rw [e1]
  refine x_join (fun σ' H' => H' = H ∧ σ' = [some (.int (m : Int)), some (.int p), some (.int n), some (.int (flN p n m)), some (.int (bnN p n m))]) (fun R hR => ?_) ?_
  · walk_at "go"
    refine x_iteD (fun h => ?_) (fun h => ?_)
    · walk_at "go"
      exact hR _ _ ⟨rfl, by unfold bnN; rw [if_pos (show 0 < flN p n m from h)]; rfl⟩
    · walk_at "go"
      exact hR _ _ ⟨rfl, by unfold bnN; rw [if_neg (show ¬ 0 < flN p n m from h)]; rfl⟩
  intro σ' H' ⟨e, hσ⟩
  subst hσ e
  walk_at "go"
  rename_i p1 H1 hp1 hs1 hn1
  exact q p1 H1 hs1 hp1 hn1
/-! ### rows alike -/
theorem tal_sh (t : Tal) : Sh 9 t.data := by
  refine Sh.tup (k := 8) fun d h => ?_
  simp only [List.mem_cons, List.not_mem_nil, or_false] at h
  rcases h with rfl | rfl | rfl | rfl <;> exact Sh.int
def spAlike : Sp := fun vs H Q _ => ∃ (a b : Addr) (t : Tal), vs = [.ref a, .ref b] ∧ H a = some (.tup t.vs) ∧ H b = some (.tup t.vs) ∧ ∀ H', Same H H' → Q (.bl true) H'
theorem ok_alike (T : Txt K mg) : FO P w K mg base 2 T.a__law_alike T.fd__law_alike ["_law_found", "_law_due"] spAlike := by
  have sc := sc__law_alike
  refine T.F__law_alike.okX sc (fun vs H Q E h => ?_) (fun cdv A outer s H vs Q E hr h => ?_)
  · obtain ⟨_, _, _, rfl, _⟩ := h
    rfl
  obtain ⟨a, b, t, rfl, ha, hb, q⟩ := h
  refine ⟨_, (pss_cons (ps_if (PW.pt (pw_or (pt_not (pt_truth (pe_callB (cr_uisinstance) (by rfl) T.b_isinstance bt_isinstance (pa_cons (pv 0) (pa_cons (pe_bltn (v := .ty "tuple") (by rfl) T.b_tuple bt_tuple rfl) pa_nil))) (by intro _; rfl))) (pw_or (pt_cmpR (op_uNe hr.units) (pe_callB (cr_ulen) (by rfl) T.b_len bt_len (pa_cons (pv 0) pa_nil)) pe_int (nomark _)) (pw_or1 (pt_cmpR (op_uNe hr.units) (pv 0) (pv 1) (nomark _)))))) (pss_one (ps_ret pe_bl)) pss_nil)
      (pss_one (ps_ret (pe_cmpR (op_uEq hr.units) (pe_callB (cr_ulen) (by rfl) T.b_len bt_len (pa_cons (pe_lc (own := [("_law_number", 2)]) (by rfl) sc.nd (pi_tup (pv 0)) (blkOk_by (own := [("_law_number", 2)]) (N := N__law_alike) (sc := defScope s__law_alike) (by decide +kernel)) (fun _ _ _ _ _ => (pg_name (i := 2) sc.nd rfl (by first | exact Or.inl rfl | exact Or.inr rfl))) (fun _ _ _ _ _ => (pts_one (K_truth (K := K) (pe_callS (ok_whole T) (hr.mono (by decide)) (by rfl) T.g__law_whole T.k__law_whole T.bd__law_whole passL2 (pa_cons (pv 2) pa_nil)) (by intro _; rfl)))) (fun _ _ _ _ _ => (pv 2))) pa_nil)) pe_int (nomark _))))), ?_⟩
  have ha4 : SqT K H a t.vs := SqT.of ha
  have hc4 : (t.vs.length : Nat) = 4 := rfl
  have d1 : Dp K H (.ref a) t.data := TalAt.dp ⟨a, rfl, ha⟩
  have d2 : Dp K H (.ref b) t.data := TalAt.dp ⟨b, rfl, hb⟩
  walk_at "begin"
  walk_at "if"
  rw [if_pos (decide_eq_true (by rw [hc4]; rfl))]
  walk_at "go"
  refine x_neS2 d1 d2 (tal_sh t) ?_
  walk_at "go"
  refine x_lcTK ha (fun i acc H' => acc.length = i) (fun i acc H H' _ h => h) (by rw [hc4]; decide) rfl ?_ ?_
  · intro j x acc H' hx hs' hac NY NN hY hN
    obtain ⟨n, rfl⟩ : ∃ n : Int, x = .int n := by
      have := List.mem_of_getElem? hx
      unfold Tal.vs at this
      simp only [List.mem_cons, List.not_mem_nil, or_false] at this
      rcases this with rfl | rfl | rfl | rfl <;> exact ⟨_, rfl⟩
    dsimp only [wipe]
    walk_at "go"
    refine ⟨rfl, ?_⟩
    walk_at "go"
    refine hY _ _ (fun _ _ h => h) ?_
    show (acc ++ [_]).length = j + 1
    rw [List.length_append, hac]
    rfl
  · intro p acc H2 hp hs2 hn2 hac
    rw [hc4] at hac
    walk_at "go"
    rw [hac]
    exact q H2 hs2
def spRowsZ : Sp := fun vs H Q _ => ∃ (a b : Addr) (ts : List Tal), vs = [.ref a, .ref b] ∧ TL H a ts ∧ TL H b ts ∧ ts.length ≤ 16 ∧ ∀ H', Same H H' → Q (.bl true) H'
theorem ok_rows (T : Txt K mg) : FO P w K mg base 3 T.a__law_rows T.fd__law_rows ["_law_found", "_law_due"] spRowsZ := by
  have sc := sc__law_rows
  refine T.F__law_rows.okX sc (fun vs H Q E h => ?_) (fun cdv A outer s H vs Q E hr h => ?_)
  · obtain ⟨_, _, _, rfl, _⟩ := h
    rfl
  obtain ⟨a, b, ts, rfl, ⟨va, hva, ala⟩, ⟨vb, hvb, alb⟩, hl, q⟩ := h
  refine ⟨_, (pss_cons (ps_if (PW.pt (pw_or (pt_not (pt_truth (pe_callB (cr_uisinstance) (by rfl) T.b_isinstance bt_isinstance (pa_cons (pv 0) (pa_cons (pe_bltn (v := .ty "list") (by rfl) T.b_list bt_list rfl) pa_nil))) (by intro _; rfl))) (pw_or1 (pt_cmpR (op_uNe hr.units) (pe_callB (cr_ulen) (by rfl) T.b_len bt_len (pa_cons (pv 0) pa_nil)) (pe_callB (cr_ulen) (by rfl) T.b_len bt_len (pa_cons (pv 1) pa_nil)) (nomark _))))) (pss_one (ps_ret pe_bl)) pss_nil)
      (pss_cons (ps_for (passes_of rfl) rfl (pi_zip (by rfl) T.b_zip (pa_cons (pv 0) (pa_cons (pv 1) pa_nil))) (pg_tup (by rfl) (pgs_cons (pg_name (i := 2) sc.nd rfl (by first | exact Or.inl rfl | exact Or.inr rfl)) (pgs_cons (pg_name (i := 3) sc.nd rfl (by first | exact Or.inl rfl | exact Or.inr rfl)) pgs_nil))) (pss_one (ps_if (pt_not (pt_truth (pe_callS (ok_alike T) (hr.mono (by decide)) (by rfl) T.g__law_alike T.k__law_alike T.bd__law_alike (passAt (takes_of rfl rfl rfl rfl)) (pa_cons (pv 2) (pa_cons (pv 3) pa_nil))) (by intro _; rfl))) (pss_one (ps_ret pe_bl)) pss_nil)))
      (pss_one (ps_ret pe_bl)))), ?_⟩
  have sqa : SqL K H a va := SqL.of hva
  have sqb : SqL K H b vb := SqL.of hvb
  have eab : va.length = vb.length := by rw [ala.1, alb.1]
  walk_at "begin"
  walk_at "if"
  rw [eab, if_pos (decide_eq_true rfl)]
  walk_at "go"
  refine x_seq ?_
  walk_at "go"
  refine x_frZ sqa sqb eab (fun i σ H' => Same H H' ∧ ∃ v2 v3, σ = [some (.ref a), some (.ref b), v2, v3]) ⟨fun _ _ h => h, _, _, rfl⟩ (fun i σ H' ⟨e, _⟩ => ⟨SqL.of (e _ _ hva), SqL.of (e _ _ hvb)⟩) ?_ ?_
  · intro i x y σ H1 H2 hx hy ⟨hs1, v2, v3, hσ⟩ hs2
    subst hσ
    obtain ⟨t, ht, hxt⟩ := ala.get hx
    obtain ⟨t', ht', hyt⟩ := alb.get hy
    rw [ht] at ht'
    cases ht'
    have s02 := hs1.trans hs2
    obtain ⟨c, rfl, hc⟩ := hxt.mono (TupS.of s02)
    obtain ⟨c', rfl, hc'⟩ := hyt.mono (TupS.of s02)
    walk_at "go"
    refine ⟨c, c', t, rfl, hc, hc', fun H3 hs3 => ?_⟩
    walk_at "go"
    exact ⟨s02.trans hs3, _, _, rfl⟩
  · intro σ H1 ⟨hs1, v2, v3, hσ⟩
    subst hσ
    dsimp only
    walk_at "go"
    exact q H1 hs1
/-! ### room and choice refused -/
theorem fin_noroom {T : Txt K mg} {E : XK} {H : Hp} (h : E (.ref T.C_NoRoom) none H) : FinR T .noroom E H := h
theorem out_noroom {T : Txt K mg} {α : Type} {f : α → Hp → Prop} {E : XK} {H : Hp} (h : E (.ref T.C_NoRoom) none H) : Out T (.error .noroom : Except Rf α) f E H := h
def spRefused (P : Program) (w : World) (K : PySem.W.Frag) (mg : Str → Option Value) (base : Heap) (T : Txt K mg) : Sp := fun vs H Q _ => ∃ (H0 : Hp) (r : Addr) (G : PG) (t : Ts) (s : St), vs = [.ref r] ∧ LB P w K mg base T .store T.C_Store H0 H r G t s ∧ Fits s ∧ choiceQ .store t s = (none, s.ru) ∧ roomQ .store t s = (.error .noroom, s) ∧
  ∀ H' G', LB P w K mg base T .store T.C_Store H0 H' r G' t s → G'.rc = G.rc → TupS H H' → Q (.bl true) H'
theorem ok_refused (T : Txt K mg) : FO P w K mg base 23 T.a__law_refused T.fd__law_refused ["_law_store"] (spRefused P w K mg base T) := by
  have sc := sc__law_refused
  refine T.F__law_refused.okX sc (fun vs H Q E h => ?_) (fun cdv A outer s H vs Q E hr h => ?_)
  · obtain ⟨_, _, _, _, _, rfl, _⟩ := h
    rfl
  obtain ⟨H0, r, G, t, s, rfl, hL, hf, hc, hrm, q⟩ := h
  refine ⟨_, (pss_cons (ps_set (i := 1) sc.nd rfl (by first | exact Or.inl rfl | exact Or.inr rfl) pe_int)
      (pss_cons (ps_try1 rfl rfl ⟨rfl, rfl, Or.inl T.g_NoRoom⟩ (takes_of rfl rfl rfl rfl) (fun W1 pn1 xe1 hW1 hP1 => (pss_one (ps_expr (K_methD0 (P := P) (w := w) (K := K) (mg := mg) (base := base) (k := 22) (pv 0) (hr.mono (by decide)) (passAt hW1))))) (fun a1 oe1 cls1 d1 pn1 hz1 hv1 => (pss_one (ps_set (i := 1) sc.nd rfl (by first | exact Or.inl rfl | exact Or.inr rfl) (pe_op (K_add (K := K)) (pv 1) pe_int)))))
      (pss_cons (ps_tryA (i := 2) rfl rfl sc.nd rfl rfl ⟨rfl, rfl, Or.inl T.g_WornError⟩ (takes_of rfl rfl rfl rfl) (fun W2 pn2 xe2 hW2 hP2 => (pss_one (ps_expr (K_methD0 (P := P) (w := w) (K := K) (mg := mg) (base := base) (k := 21) (pv 0) (hr.mono (by decide)) (passAt hW2))))) (fun a2 oe2 cls2 d2 pn2 hz2 hv2 => (pss_one (ps_set (i := 1) sc.nd rfl (by first | exact Or.inl rfl | exact Or.inr rfl) (pe_op (K_add (K := K)) (pv 1) (pe_callTy ct_int (by rfl) T.b_int bt_int (pa_cons (K_andT (K := K) (pe_callB (cr_isX hz2 hv2) (by rfl) T.b_isinstance bt_isinstance (pa_cons (pv 2) (pa_cons (pe_bltn (v := .ty "ValueError") (by rfl) T.b_ValueError bt_ValueError rfl) pa_nil))) (pe_one (pe_callB (cr_isXC hz2 hv2) (by rfl) T.b_isinstance bt_isinstance (pa_cons (pv 2) (pa_cons (pe_glob (v := .ref T.C_NoRoom) rfl T.g_NoRoom rfl) pa_nil))))) pa_nil)))))))
      (pss_one (ps_ret (pe_cmpR (op_uEq hr.units) (pv 1) pe_int (nomark _))))))), ?_⟩
  have hk : Kd.store ≠ .plain := fun z => by cases z
  walk_at "begin"
  walk_at "go"
  refine x_qRoom hk hL.sp (by rw [hrm]; exact hf) fun H1 G1 hx ho hP => ?_
  rw [hrm] at hP ⊢
  have hL1 := hL.ask hx ho hP
  have e1 : G1.rc = G.rc := by rw [hx.eq]
  refine out_noroom ?_
  refine x_onlyT T.em_NoRoom_NoRoom fun a na => ?_
  walk_at "go"
  refine x_qChoice hk hL1.sp hf fun H2 hO2 hP2 => ?_
  rw [hc] at hP2 ⊢
  have hL2 : LB P w K mg base T .store T.C_Store H0 H2 r G1 t s := ⟨hP2, Off.same hL1.same (hO2.sub fun b hb => by rw [PG.all_store hk]; exact List.mem_append_right _ (List.mem_cons_of_mem _ hb)) hL1.nG, hL1.nG, hL1.nF⟩
  refine fin_noroom ?_
  refine x_asT T.em_NoRoom_WornError fun a2 na2 => ?_
  walk_at "go"
  refine x_isX ?_ T.ec_NoRoom T.ki_NoRoom_ValueError
  walk_at "go"
  refine x_isXC ?_ T.ec_NoRoom T.kc_NoRoom_NoRoom
  walk_at "go"
  exact q H2 G1 hL2 e1 fun c xs h => hL1.sp.tups (hO2.sub fun b hb => by rw [PG.all_store hk]; exact List.mem_append_right _ (List.mem_cons_of_mem _ hb)) _ _ (hL.sp.tups ho _ _ h)
/-! ### another rule is taken -/
section
variable {T : Txt K mg} {kd : Kd} {C : Addr} {H0 H : Hp} {r : Addr} {G : PG} {t : Ts} {s : St} {Q : VK} {E : XK}
theorem x_qTake {σ : L2.St} {ta : TA} (hk : kd ≠ .plain) (hP : SP P w base T kd C H r G t s) (h : ta σ H fun vs H2 => spTakeQ T P w base (.ref r :: vs) H2 Q E) : mtK P w K mg base (L2.CX P w) 1 "take" E σ ta Q (.ref r) H :=
  x_mtK hP.obj ⟨⟨_, _, _, hP.v.cl, hP.v.take hk, ok_Store_take T, T.bd_Store_take⟩⟩ (hP.lk (by rfl)) h
theorem x_bTake {R : Rl} {ru : Addr} {H1 : Hp} (hk : kd ≠ .plain) (hL : LB P w K mg base T kd C H0 H r G t s) (h0 : H0 r = none) (hs : Same H H1) (hru : H ru = none) (hR : RlAt P w K mg base H1 [ru] ru R)
    (q : ∀ H' G', LB P w K mg base T kd C H0 H' r G' t { s with ru := R } → G'.rc = G.rc → TupS H1 H' → Q .non H') : spTakeQ T P w base [.ref r, .ref ru] H1 Q E := by
  have hL1 := hL.mono hs
  have nr : ru ∉ G.all kd := hL.sp.fresh hru
  have nx := hL.sp.freshR hru
  have nf := hL.sp.freshF hk hru
  have hn0 : H0 ru = none := same_none hL.same hru
  rw [PG.all_store hk] at nr
  have nm : ru ∉ G.mut := fun z => nr (List.mem_append_left _ z)
  have np : ru ≠ G.pa := fun z => nr (List.mem_append_right _ (z ▸ List.mem_cons_self))
  have ea : ∀ a, a ∈ PG.all kd { G with ru := ru, rf := [ru] } → a ∈ G.mut ∨ a = G.pa ∨ a = ru := fun a ha => by
    rw [PG.all_store hk] at ha
    rcases List.mem_append.mp ha with z | z
    · exact .inl z
    · rcases List.mem_cons.mp z with z | z
      · exact .inr (.inl z)
      · exact .inr (.inr (List.mem_singleton.mp z))
  have eb : ∀ a, a ∈ G.mut ∨ a = G.pa → a ∈ G.all kd := fun a ha => by
    rw [PG.all_store hk]
    rcases ha with ha | ha
    · exact List.mem_append_left _ ha
    · exact List.mem_append_right _ (ha ▸ List.mem_cons_self)
  refine ⟨kd, C, r, G, t, s, R, ru, [ru], rfl, hk, hL1.sp, hR, fun a ha => ?_, fun H' hO hP' => q H' _ ⟨hP', Off.same1 hL1.same hO h0, fun a ha => ?_, hL.nF⟩ rfl fun c xs hc => hO.at hc (nin_of fun z => ?_)⟩
  · rw [List.mem_singleton.mp ha]
    exact ⟨nm, np, nx.1.symm, nx.2.symm, nf⟩
  · rcases ea a ha with z | z | z
    · exact hL.nG a (eb a (.inl z))
    · exact hL.nG a (eb a (.inr z))
    · rw [z]; exact hn0
  · have := hL1.sp.obj
    rw [← z, hc] at this
    cases this
end
/-! ### the law -/
theorem odd_ne {st c : Int} (h0 : 0 ≤ st) (h1 : st < 32) {i j : Nat} (hj : j < i) (hi : i < 64) : (c + (1 + 2 * st) * (j : Int)) % 64 ≠ (c + (1 + 2 * st) * (i : Int)) % 64 := fun e => by
  have key : ∀ a : Nat, a < 32 → ∀ d : Nat, d < 64 → 0 < d → (1 + 2 * a) * d % 64 ≠ 0 := by decide +kernel
  obtain ⟨a, rfl⟩ : ∃ a : Nat, st = (a : Int) := ⟨st.toNat, by omega⟩
  obtain ⟨d, rfl⟩ : ∃ d : Nat, i = j + d := ⟨i - j, by omega⟩
  refine key a (by omega) d (by omega) (by omega) ?_
  have h2 : (1 + 2 * (a : Int)) * ((j + d : Nat) : Int) = (1 + 2 * (a : Int)) * (j : Int) + (((1 + 2 * a) * d : Nat) : Int) := by push_cast; rw [Int.mul_add]
  rw [h2] at e
  generalize (1 + 2 * (a : Int)) * (j : Int) = u at e
  generalize (1 + 2 * a) * d = z at *
  omega
def spLaw (K : PySem.W.Frag) : Sp := fun vs H Q _ => ∃ (a : Addr) (ns : List Int), vs = [.ref a] ∧ SqL K H a (ns.map V.int) ∧ ns.length ≤ 63 ∧ ∀ H', Q (.bl true) H'
theorem ok_law (T : Txt K mg) : FO P w K mg base 28 T.a_law T.fd_law ["_law_script"] (spLaw K) := by
  have sc := sc_law
  refine T.F_law.okX sc (fun vs H Q E h => ?_) (fun cdv A outer s H vs Q E hr h => ?_)
  · obtain ⟨a, ns, rfl, _⟩ := h
    rfl
  obtain ⟨a, ns, rfl, hS, hl, q⟩ := h
  refine ⟨_, (pss_cons (ps_asg (pe_callS (ok_size T) (hr.mono (by decide)) (by rfl) T.g__law_size T.k__law_size T.bd__law_size (passAt (takes_of rfl rfl rfl rfl)) (pa_cons (pv 0) pa_nil)) (pg_lst (n := 4) (by rfl) (pgs_cons (pg_name (i := 1) sc.nd rfl (by first | exact Or.inl rfl | exact Or.inr rfl)) (pgs_cons (pg_name (i := 2) sc.nd rfl (by first | exact Or.inl rfl | exact Or.inr rfl)) (pgs_cons (pg_name (i := 3) sc.nd rfl (by first | exact Or.inl rfl | exact Or.inr rfl)) (pgs_cons (pg_name (i := 4) sc.nd rfl (by first | exact Or.inl rfl | exact Or.inr rfl)) pgs_nil))))))
      (pss_cons (ps_set (i := 5) sc.nd rfl (by first | exact Or.inl rfl | exact Or.inr rfl) (pe_mkS T.mk_Chip (ok_Chip_init T) (hr.mono (by decide)) (by rfl) T.g_Chip T.bd2_Chip_init T.dv2_Chip_init (passAt (takes_of rfl rfl rfl rfl)) (pa_cons (pv 1) (pa_cons (pv 2) pa_nil))))
      (pss_cons (ps_set (i := 6) sc.nd rfl (by first | exact Or.inl rfl | exact Or.inr rfl) (pe_mkS T.mk_Store (ok_Store_init T) (hr.mono (by decide)) (by rfl) T.g_Store T.bd_Store_init .nil (passAt (takes_of rfl rfl rfl rfl)) (pa_cons (pv 5) (pa_cons (pe_mkS T.mk_Terms (ok_Terms_init T) (hr.mono (by decide)) (by rfl) T.g_Terms T.bd1_Terms_init T.dv1_Terms_init (passAt (takes_of rfl rfl rfl rfl)) (pa_cons (pv 1) (pa_cons (pv 2) (pa_cons pe_int (pa_cons (pv 3) (pa_cons (pv 4) pa_nil)))))) (pa_cons (pe_mkN T.mk0_Fewest (by rfl) T.g_Fewest) pa_nil)))))
      (pss_cons (ps_set (i := 7) sc.nd rfl (by first | exact Or.inl rfl | exact Or.inr rfl) (pe_callB (cr_umax) (by rfl) T.b_max bt_max (pa_cons pe_int (pa_cons (pe_callB cr_umin3 (by rfl) T.b_min bt_min (pa_cons (pv 3) (pa_cons pe_int (pa_cons (pe_op op_sub (pe_callB (cr_ulen) (by rfl) T.b_len bt_len (pa_cons (pv 0) pa_nil)) pe_int) pa_nil)))) pa_nil))))
      (pss_cons (ps_set (i := 8) sc.nd rfl (by first | exact Or.inl rfl | exact Or.inr rfl) (pe_op op_uAdd pe_int (pe_op op_uMul pe_int (pe_op op_mod (pe_callS (ok_cell_at T) (hr.mono (by decide)) (by rfl) T.g__law_cell_at T.k__law_cell_at T.bd__law_cell_at (passAt (takes_of rfl rfl rfl rfl)) (pa_cons (pv 0) (pa_cons pe_int pa_nil))) pe_int))))
      (pss_cons (ps_for (passes_of rfl) rfl (pi_range1 (by rfl) T.b_range (pa_cons (pv 7) pa_nil)) (pg_name (i := 9) sc.nd rfl (by first | exact Or.inl rfl | exact Or.inr rfl)) (pss_cons (ps_set (i := 10) sc.nd rfl (by first | exact Or.inl rfl | exact Or.inr rfl) (pe_methD (k := 24) (pv 6) (hr.mono (by decide)) (passAt (takes_of rfl rfl rfl rfl)) (pa_cons (pe_op op_mod (pe_op op_uAdd (pe_callS (ok_cell_at T) (hr.mono (by decide)) (by rfl) T.g__law_cell_at T.k__law_cell_at T.bd__law_cell_at (passAt (takes_of rfl rfl rfl rfl)) (pa_cons (pv 0) (pa_cons pe_int pa_nil))) (pe_op op_uMul (pv 8) (pv 9))) pe_int) (pa_cons (pe_op op_mod (pe_ix ix_seq (pv 0) (pe_op op_uAdd pe_int (pv 9)) (fun _ _ => rfl)) (pe_op op_pow pe_int pe_int)) pa_nil))))
      (pss_one (ps_if (PW.pt (pw_or (pt_not (pt_truth (pe_callS (ok_whole T) (hr.mono (by decide)) (by rfl) T.g__law_whole T.k__law_whole T.bd__law_whole (passAt (takes_of rfl rfl rfl rfl)) (pa_cons (pv 10) pa_nil)) (by intro _; rfl))) (pw_or1 (pt_cmpR (op_uNe hr.units) (pv 10) (pv 9) (nomark _))))) (pss_one (ps_ret pe_bl)) pss_nil))))
      (pss_cons (ps_setLc (i := 11) (own := [("_law_block", 12)]) (by rfl) sc.nd rfl rfl (sw_true rfl rfl rfl (by decide +kernel)) (pi_range1 (by rfl) T.b_range (pa_cons (pv 1) pa_nil)) (blkOk_by (own := [("_law_block", 12)]) (N := N_law) (sc := defScope s_law) (by decide +kernel)) (fun _ _ _ _ _ => (pg_name (i := 12) sc.nd rfl (by first | exact Or.inl rfl | exact Or.inr rfl))) (fun _ _ _ _ _ => pts_nil) (fun _ _ _ _ _ => (pe_callS (ok_tally T) (hr.mono (by decide)) (by rfl) T.g__law_tally T.k__law_tally T.bd__law_tally passL2 (pa_cons (pv 12) (pa_cons (pv 2) (pa_cons (pv 7) pa_nil))))))
      (pss_cons (ps_if (PW.pt (pw_or (pt_not (pt_truth (pe_callS (ok_whole T) (hr.mono (by decide)) (by rfl) T.g__law_whole T.k__law_whole T.bd__law_whole (passAt (takes_of rfl rfl rfl rfl)) (pa_cons (pe_methD0 (k := 7) (pv 6) (hr.mono (by decide)) (passAt (takes_of rfl rfl rfl rfl))) pa_nil)) (by intro _; rfl))) (pw_or1 (pt_cmpR (op_uNe hr.units) (pe_methD0 (k := 7) (pv 6) (hr.mono (by decide)) (passAt (takes_of rfl rfl rfl rfl))) (pe_op op_uAdd pe_int (pv 4)) (nomark _))))) (pss_one (ps_ret pe_bl)) pss_nil)
      (pss_cons (ps_if (PW.pt (pw_or (pt_not (pt_truth (pe_callS (ok_whole T) (hr.mono (by decide)) (by rfl) T.g__law_whole T.k__law_whole T.bd__law_whole (passAt (takes_of rfl rfl rfl rfl)) (pa_cons (pe_methD0 (k := 8) (pv 6) (hr.mono (by decide)) (passAt (takes_of rfl rfl rfl rfl))) pa_nil)) (by intro _; rfl))) (pw_or (pt_cmpR (op_uNe hr.units) (pe_methD0 (k := 8) (pv 6) (hr.mono (by decide)) (passAt (takes_of rfl rfl rfl rfl))) (pv 2) (nomark _)) (pw_or1 (pt_cmpR op_uIsNot (pe_methD0 (k := 8) (pv 6) (hr.mono (by decide)) (passAt (takes_of rfl rfl rfl rfl))) pe_bl (nomark _)))))) (pss_one (ps_ret pe_bl)) pss_nil)
      (pss_cons (ps_if (pt_not (pt_truth (pe_callB (cr_uisinstance) (by rfl) T.b_isinstance bt_isinstance (pa_cons (pv 6) (pa_cons (pe_glob (v := .ref T.C_Plain) rfl T.g_Plain rfl) pa_nil))) (by intro _; rfl))) (pss_one (ps_ret pe_bl)) pss_nil)
      (pss_cons (ps_for (passes_of rfl) rfl (pi_range1 (by rfl) T.b_range (pa_cons (pv 1) pa_nil)) (pg_name (i := 12) sc.nd rfl (by first | exact Or.inl rfl | exact Or.inr rfl)) (pss_one (ps_if (pt_not (pt_truth (pe_callS (ok_alike T) (hr.mono (by decide)) (by rfl) T.g__law_alike T.k__law_alike T.bd__law_alike (passAt (takes_of rfl rfl rfl rfl)) (pa_cons (pe_methD (k := 5) (pv 6) (hr.mono (by decide)) (passAt (takes_of rfl rfl rfl rfl)) (pa_cons (pv 12) pa_nil)) (pa_cons (pe_ix ix_seq (pv 11) (pv 12) (fun _ _ => rfl)) pa_nil))) (by intro _; rfl))) (pss_one (ps_ret pe_bl)) pss_nil)))
      (pss_cons (ps_set (i := 13) sc.nd rfl (by first | exact Or.inl rfl | exact Or.inr rfl) (pe_methD0 (k := 9) (pv 6) (hr.mono (by decide)) (passAt (takes_of rfl rfl rfl rfl))))
      (pss_cons (ps_if (PW.pt (pw_or (pt_not (pt_truth (pe_callS (ok_rows T) (hr.mono (by decide)) (by rfl) T.g__law_rows T.k__law_rows T.bd__law_rows (passAt (takes_of rfl rfl rfl rfl)) (pa_cons (pv 13) (pa_cons (pe_slice sl_u (pv 11) po_none (po_some (pe_op op_fdivW (pv 7) (pv 2)))) pa_nil))) (by intro _; rfl))) (pw_or1 (pt_not (pt_truth (pe_callS (ok_rows T) (hr.mono (by decide)) (by rfl) T.g__law_rows T.k__law_rows T.bd__law_rows (passAt (takes_of rfl rfl rfl rfl)) (pa_cons (pe_methD0 (k := 11) (pv 6) (hr.mono (by decide)) (passAt (takes_of rfl rfl rfl rfl))) (pa_cons (pe_lst pa_nil) pa_nil))) (by intro _; rfl)))))) (pss_one (ps_ret pe_bl)) pss_nil)
      (pss_cons (ps_expr (pe_bm0 PySem.F.plainAttrs_list PySem.F.slot_list_clear PySem.F.type_list_clear mt_clear (pv 13)))
      (pss_cons (ps_if (PW.pt (pw_or (pt_cmpR op_uIsNot (pe_methD (k := 1) (pv 6) (hr.mono (by decide)) (passAt (takes_of rfl rfl rfl rfl)) (pa_cons (pe_mkN T.mk0_Eldest (by rfl) T.g_Eldest) pa_nil)) pe_non (nomark _)) (pw_or (pt_not (pt_truth (pe_callS (ok_refused T) (hr.mono (by decide)) (by rfl) T.g__law_refused T.k__law_refused T.bd__law_refused (passAt (takes_of rfl rfl rfl rfl)) (pa_cons (pv 6) pa_nil)) (by intro _; rfl))) (pw_or1 (pt_cmpR (op_uNe hr.units) (pe_fld (pv 6) rfl) (pe_lst pa_nil) (nomark _)))))) (pss_one (ps_ret pe_bl)) pss_nil)
      (pss_one (ps_ret (pe_andT (pe_callS (ok_rows T) (hr.mono (by decide)) (by rfl) T.g__law_rows T.k__law_rows T.bd__law_rows (passAt (takes_of rfl rfl rfl rfl)) (pa_cons (pe_methD0 (k := 9) (pv 6) (hr.mono (by decide)) (passAt (takes_of rfl rfl rfl rfl))) (pa_cons (pe_slice sl_u (pv 11) po_none (po_some (pe_op op_fdivW (pv 7) (pv 2)))) pa_nil))) (pe_one (pe_cmpR (op_uEq hr.units) (pe_callB (cr_ulen) (by rfl) T.b_len bt_len (pa_cons (pe_methD0 (k := 1) (pv 5) (hr.mono (by decide)) (passAt (takes_of rfl rfl rfl rfl))) pa_nil)) (pv 7) (nomark _))))))))))))))))))))), ?_⟩
  walk_at "begin"
  walk_at "go"
  refine ⟨a, ns, rfl, hS, fun p0 H1 B P0 S0 I0 hs1 hp0 hn0 hz => ?_⟩
  obtain ⟨hB, hP0, hI0, hS0⟩ := hz
  walk_at "go"
  rename_i x dx Hm hx hdx hne hsm hnm hdd
  refine x_cinit hB hP0 hx hsm hnm fun F H2 hs2 hF hC => ⟨rfl, ?_⟩
  clear hsm hnm hdd hne hdx
  walk_at "go"
  rename_i xt dxt Ht hxt hdxt hnet hst hnt hddt
  refine x_tinit hB hP0 (by decide) hI0 (show (1 : Int) ≤ 1000000 ∧ (1000000 : Int) ≤ 1000000 by decide) hS0 hxt hst hnt fun dt H3 hs3 hT => ⟨rfl, ?_⟩
  have kxt := hC.fresh hxt
  have hC3 := hC.mono hs3
  clear hst hnt hddt hnet hdxt
  walk_at "go"
  rename_i ru dxr H4 hru hdxr hner hs4 hn4 hddr xs dxs Hs hxs hdxs hnes hss hns hdds
  have hT4 := hs4 _ _ hT
  have hC4 := hC3.mono hs4
  have hR : RlAt P w K mg base H4 [ru] ru (.by (gk 1)) := rl_Fewest T hn4
  have hfew : S0 + 1 < P0 * (B - 1 - I0) := by rw [Int.mul_comm P0]; omega
  obtain ⟨hO0, hD0, hW0⟩ := own_new (kd := .store) (t := ⟨B, P0, 64, S0, I0, 1000000⟩) (R := .by (gk 1)) (m := 1000000) (l := List.replicate B.toNat .non) (fun z => by cases z) hB hP0 ⟨rfl, rfl⟩ hI0 (show (1 : Int) ≤ 1000000 by decide) ⟨by show (0 : Int) ≤ S0; omega, hfew⟩ (by show (64 : Int) ≤ 64; decide) hR.ok (fun _ => ⟨rfl, rfl⟩)
  have kF : ∀ b ∈ F.all x, H b = none := fun b hb => same_none hs1 (hF b hb)
  have s03 : Same H H3 := (hs1.trans hs2).trans hs3
  have s04 : Same H H4 := s03.trans hs4
  refine x_sinitQ (kd := .store) (t := ⟨B, P0, 64, S0, I0, 1000000⟩) (fun z => by cases z) (VStore T trivial) hxs hss hns (chipP_new hC4) hT4 rfl rfl kxt hO0.core.wf hR (fun b hb => ⟨fun z => ?_, fun z => ?_⟩) fun G H5 hs5 g1 g2 g3 g4 g5 g6 g7 g8 hP5 => ⟨rfl, ?_⟩
  · rw [List.mem_singleton.mp hb] at z
    exact hC3.fresh hru z
  · rw [List.mem_singleton.mp hb] at z
    rw [z, hT] at hru
    cases hru
  have s05 : Same H H5 := s04.trans hs5
  have nG : ∀ b ∈ G.all .store, H b = none := fun b hb => by
    rcases List.mem_append.mp hb with hb | hb
    · rcases List.mem_append.mp hb with hb | hb
      · rw [g1, g2] at hb; exact kF b hb
      · exact same_none s04 (g7 b hb)
    · rcases List.mem_cons.mp hb with rfl | hb
      · exact same_none s04 g8
      · rw [g4, List.mem_singleton] at hb
        rw [hb]
        exact same_none s03 hru
  clear hss hns hdds hnes hdxs hn4 hddr hner hdxr
  have hS5 := s05.seq hS
  have hD00 := dq_new hB.1 hO0 ⟨rfl, rfl⟩
  have hM5 : Fil ⟨B, P0, 64, S0, I0, 1000000⟩ 0 ⟨Pc.new B P0 1000000 (List.replicate B.toNat .non), Bk.new B P0, [], .by (gk 1)⟩ [] := Fil.new hO0 hD00
  have hL5 : LB P w K mg base T .store T.C_Store H H5 xs G ⟨B, P0, 64, S0, I0, 1000000⟩ ⟨Pc.new B P0 1000000 (List.replicate B.toNat .non), Bk.new B P0, [], .by (gk 1)⟩ := ⟨hP5, s05, nG, by rw [g6]; exact fun b hb => by cases hb⟩
  have hkp : Kd.store ≠ .plain := fun z => by cases z
  walk_at "go"
  have hm3 : ∃ y : Int, (if (40 : Int) < S0 then (if ((ns.length : Nat) : Int) - 6 < 40 then ((ns.length : Nat) : Int) - 6 else 40) else (if ((ns.length : Nat) : Int) - 6 < S0 then ((ns.length : Nat) : Int) - 6 else S0)) = y ∧ y ≤ S0 ∧ y ≤ 40 ∧ y ≤ ((ns.length : Nat) : Int) - 6 := ⟨_, rfl, by split <;> split <;> omega⟩
  obtain ⟨y, hy, hy1, hy2, hy3⟩ := hm3
  rw [hy]
  have hMM : ∃ M : Nat, (if y > 0 then y else 0) = (M : Int) ∧ (M : Int) ≤ S0 ∧ M ≤ 40 ∧ (M = 0 ∨ M + 6 ≤ ns.length) := ⟨(if y > 0 then y else 0).toNat, by split <;> omega⟩
  obtain ⟨M, hM, hM1, hM2, hM3⟩ := hMM
  rw [hM]
  have hst : 0 ≤ cl ns 4 % 32 ∧ cl ns 4 % 32 < 32 := by omega
  generalize cl ns 4 % 32 = st at hst ⊢
  obtain ⟨tt, htt⟩ : ∃ tt : Ts, tt = ⟨B, P0, 64, S0, I0, 1000000⟩ := ⟨_, rfl⟩
  have ets : tt.s = 64 := by rw [htt]
  have eth : tt.h = S0 := by rw [htt]
  have etp : tt.p = P0 := by rw [htt]
  have etb : tt.b = B := by rw [htt]
  have eti : tt.i = I0 := by rw [htt]
  rw [← htt] at hL5 hM5
  generalize (⟨Pc.new B P0 1000000 (List.replicate B.toNat .non), Bk.new B P0, [], .by (gk 1)⟩ : St) = st0 at hL5 hM5
  have hxs0 : H xs = none := same_none s04 hxs
  clear hP5 hT hT4 hC hC3 hC4 g7 g8 hR hru hs2 hs3 hs4 hs5 s03 s04 kF hF kxt nG hO0 hD0 hW0 hD00 hs1 hxs hx hxt hy hM hfew hn0 hp0
  refine x_seq ?_
  walk_at "go"
  refine x_frR1 (by omega) (fun i σ H' => ∃ (v9 v10 : Option V) (G' : PG) (s' : St) (kv : List (Int × Int)), σ = [some (.ref a), some (.int B), some (.int P0), some (.int S0), some (.int I0), some (.ref x), some (.ref xs), some (.int (M : Int)), some (.int (1 + 2 * st)), v9, v10, none, none, none] ∧ LB P w K mg base T .store T.C_Store H H' xs G' tt s' ∧ Fil tt i s' kv ∧ G'.rc = x ∧ ∀ n ∈ kv.map (·.1), ∃ j : Nat, j < i ∧ n = (cl ns 5 + (1 + 2 * st) * (j : Int)) % 64)
    ⟨_, _, G, st0, [], rfl, hL5, hM5, g1, fun n hn => by cases hn⟩ ?_ ?_
  · intro i σ H6 hi ⟨v9, v10, G6, s6, kv6, hσ, hL6, hF6, e6, hkv⟩
    subst hσ
    have hS6 := hL6.same.seq hS
    have hiM : i < M := by omega
    have hk' : 0 ≤ 6 + (0 + (i : Int)) ∧ 6 + (0 + (i : Int)) < ns.length := by omega
    walk_at "go"
    refine x_qWrite hL6.sp ?_
    walk_at "go"
    generalize ns.getD (6 + (0 + (i : Int))).toNat 0 = w0
    have hv0 := Int.emod_nonneg w0 (show (10 : Int) ^ 30 ≠ 0 by decide)
    have hv1 := Int.emod_lt_of_pos w0 (show (0 : Int) < 10 ^ 30 by decide)
    generalize hnn : (cl ns 5 + (1 + 2 * st) * (0 + (i : Int))) % 64 = nn
    have hn64 : 0 ≤ nn ∧ nn < 64 := by omega
    have hnew : nn ∉ kv6.map (·.1) := fun hm => by
      obtain ⟨j, hj, e⟩ := hkv nn hm
      rw [Int.zero_add] at hnn
      exact odd_ne hst.1 hst.2 hj (by omega) (hnn.trans e).symm
    obtain ⟨s7, ew, hF7⟩ := hF6.next (n := nn) (v := w0 % 10 ^ 30) (by rw [eth]; omega) (by omega) (by rw [ets]; exact hn64) (by rw [ets]; decide) hnew
    refine x_writeQ 20 hL6.sp (by rw [ets]; decide) (by rw [ets]; exact hn64) ⟨hv0, hv1⟩ (by rw [ew]; exact hF7.own.bnd.fits (by omega)) fun H7 G7 hx7 ho7 hP7 => ?_
    rw [ew] at hP7 ⊢
    have hL7 := hL6.ask hx7 ho7 hP7
    have e7 : G7.rc = x := by rw [hx7.eq]; exact e6
    refine out_ok ?_
    walk_at "go"
    refine x_iteD (fun _ => ?_) (fun z => absurd (show (i : Int) = 0 + (i : Int) by omega) z)
    walk_at "go"
    refine ⟨_, _, G7, s7, _, rfl, hL7, hF7, e7, fun n hn => ?_⟩
    rw [putI_keys, if_neg hnew] at hn
    rcases List.mem_append.mp hn with hn | hn
    · obtain ⟨j, hj, e⟩ := hkv n hn
      exact ⟨j, by omega, e⟩
    · refine ⟨i, Nat.lt_succ_self _, ?_⟩
      rw [List.mem_singleton.mp hn, ← hnn, Int.zero_add]
  · intro σ H6 ⟨v9, v10, G6, s6, kv6, hσ, hL6, hF6, e6, hkv⟩
    subst hσ
    dsimp only
    clear hkv hL5 hM5
    rw [show ((M : Int)).toNat = M from rfl] at hF6
    have hMt : (M : Int) ≤ tt.h := by rw [eth]; exact hM1
    walk_at "go"
    refine x_lcR1K (fun i acc H' => TAll H' acc ((List.range i).map (talN P0 M))) (fun i acc H H' s h => h.mono s) ⟨by omega, by omega⟩ TAll.nil ?_ ?_
    · intro i acc H' hi hs' ha NY NN hY hN
      dsimp only [wipe]
      walk_at "go"
      refine ⟨rfl, ?_⟩
      walk_at "go"
      refine ⟨i, P0, M, rfl, hP0.1, hP0.2, fun c H8 hs8 hc hnc => ?_⟩
      walk_at "go"
      refine hY _ _ hs8 ?_
      show TAll _ (acc ++ [_]) _
      rw [List.range_succ, List.map_append]
      exact (ha.mono (TupS.of hs8)).snoc ⟨c, rfl, hnc⟩
    intro pD due H7 hpD hs7 hnD hdue
    have hL7 := hL6.mono hs7
    have hTD : TL H7 pD ((List.range B.toNat).map (talN P0 M)) := ⟨due, hnD, hdue⟩
    walk_at "go"
    walk_at "if"
    refine x_qRes hL7.sp fun H8 hs8 => ?_
    have hL8 := hL7.mono hs8
    walk_at "go"
    refine x_qRes hL8.sp fun H9 hs9 => ?_
    have hL9 := hL8.mono hs9
    walk_at "go"
    refine x_iteD (fun _ => ?_) (fun z => absurd (show resvQ .store tt s6.q = 1 + I0 by show 1 + tt.i = _; rw [eti]) z)
    walk_at "go"
    walk_at "if"
    refine x_qSpace hkp hL9.sp fun H10 hs10 => ?_
    have hL10 := hL9.mono hs10
    walk_at "go"
    refine x_qSpace hkp hL10.sp fun H11 hs11 => ?_
    have hL11 := hL10.mono hs11
    walk_at "go"
    refine x_iteD (fun _ => ?_) (fun z => absurd (show spaceQ .store tt s6.q s6.k = P0 by rw [hF6.space hMt, etp]) z)
    walk_at "go"
    refine x_qReady hL11.sp fun H12 hs12 => ?_
    rw [hF6.ready hMt]
    have hL12 := hL11.mono hs12
    walk_at "go"
    refine x_iteD (fun _ => ?_) (fun z => absurd rfl z)
    walk_at "go"
    walk_at "if"
    have ho12 := hL12.sp.obj
    refine x_isI ho12 T.cl_Store T.ic_Store T.kn_Store_Plain ?_
    walk_at "go"
    have hB6 : s6.q.b = B := by rw [← hF6.own.core.tb.1, etb]
    have s712 : Same H7 H12 := (((hs8.trans hs9).trans hs10).trans hs11).trans hs12
    have hdl : due.length = B.toNat := by rw [hdue.1, List.length_map, List.length_range]
    have dget : ∀ i : Nat, i < B.toNat → ∃ c, atI due (i : Int) = some (.ref c) ∧ H7 c = some (.tup (talN P0 M i).vs) := fun i hi => by
      have hil : i < due.length := by omega
      obtain ⟨t1, ht1, c, e1, e2⟩ := hdue.get (List.getElem?_eq_getElem hil)
      rw [List.getElem?_map, List.getElem?_range hi] at ht1
      cases ht1
      exact ⟨c, by rw [atI_nat (j := i) (List.getElem?_eq_getElem hil), e1], e2⟩
    refine x_seq ?_
    walk_at "go"
    refine x_frR1 (by omega) (fun i σ H' => Same H12 H' ∧ ∃ v12, σ = [some (.ref a), some (.int B), some (.int P0), some (.int S0), some (.int I0), some (.ref x), some (.ref xs), some (.int (M : Int)), some (.int (1 + 2 * st)), v9, v10, some (.ref pD), v12, none])
      ⟨fun _ _ h => h, _, rfl⟩ ?_ ?_
    · intro i σ H13 hi ⟨hs13, v12, hσ⟩
      subst hσ
      have hL13 := hL12.mono hs13
      walk_at "go"
      refine x_qTally hkp hL13.sp ?_
      walk_at "go"
      rw [Int.zero_add]
      refine ⟨.store, T.C_Store, xs, G6, tt, s6, i, rfl, hL13.sp, by rw [hB6]; exact hi, fun p H14 hs14 hp14 hn14 => ?_⟩
      rw [hF6.tal (by rw [hB6]; exact hi), etp] at hn14
      obtain ⟨c, hc1, hc2⟩ := dget i hi
      have s714 : Same H7 H14 := (s712.trans hs13).trans hs14
      have hc3 := s714 _ _ hc2
      have hq14 : SqL K H14 pD due := SqL.of (s714 _ _ hnD)
      have hdl2 : (i : Int) < (due.length : Int) := by rw [hdl]; exact_mod_cast hi
      walk_at "go"
      refine ⟨p, c, _, rfl, hn14, hc3, fun H15 hs15 => ?_⟩
      walk_at "go"
      exact ⟨(hs13.trans hs14).trans hs15, _, rfl⟩
    intro σ H13 ⟨hs13, v12, hσ⟩
    subst hσ
    dsimp only
    have s713 := s712.trans hs13
    have hL13 := hL12.mono hs13
    have hful := hF6.full hMt
    rw [etp, hB6] at hful
    have hMq : (M : Int) / P0 = ((M / P0.toNat : Nat) : Int) := by
      have : P0 = ((P0.toNat : Nat) : Int) := by omega
      rw [this]
      rfl
    have hk16 : ((List.range (M / P0.toNat)).map (talN P0 M)).length ≤ 16 := by
      rw [List.length_map, List.length_range]
      have := hful.2
      omega
    have hP00 : 0 < P0 := by omega
    have hcut : ∀ {H' : Hp} {p : Addr}, Same H7 H' → H' p = some (.lst (cutV due none (some ((M : Int) / P0)))) → TL H' p ((List.range (M / P0.toNat)).map (talN P0 M)) := fun {H' p} hs hn => by
      rw [hMq, cutV_to] at hn
      refine ⟨_, hn, ?_⟩
      have h1 := (hdue.mono (TupS.of hs)).take (M / P0.toNat)
      rw [← List.map_take, List.take_range, Nat.min_eq_left (by have := hful.2; omega)] at h1
      exact h1
    walk_at "go"
    refine x_qFull hkp hL13.sp fun pf H14 hs14 hpf hTf => ?_
    rw [hful.1] at hTf
    obtain ⟨fv, hfv, hfa⟩ := id hTf
    have s714 := s713.trans hs14
    have hqD := SqL.of (K := K) (s714 _ _ hnD)
    have hLd : LB P w K mg base T .store T.C_Store (upd H pD (.lst due)) H7 xs G6 tt s6 := hL6.new hkp hpD hnD hs7
    have hL14 := (hLd.mono s713).new hkp hpf hfv hs14
    walk_at "go"
    walk_at "if"
    rename_i pc H15 hpc hs15 hnc
    refine ⟨pf, pc, _, rfl, hTf.mono hs15, hcut (s714.trans hs15) hnc, hk16, fun H16 hs16 => ?_⟩
    have hL16 := (hL14.mono hs15).mono hs16
    walk_at "go"
    refine x_qOpts hkp hL16.sp fun po H17 hs17 hpo hTo => ?_
    rw [hF6.opts hMt] at hTo
    have hL17 := hL16.mono hs17
    walk_at "go"
    rename_i pe H18 hpe hs18 hne
    refine ⟨po, pe, [], rfl, hTo.mono hs18, ⟨[], hne, TAll.nil⟩, by decide, fun H19 hs19 => ?_⟩
    have hL19 := (hL17.mono hs18).mono hs19
    have hpf19 : H19 pf = some (.lst fv) := hL19.same _ _ upd_same
    have s1419 : Same H14 H19 := (((hs15.trans hs16).trans hs17).trans hs18).trans hs19
    have nxD : xs ≠ pD := ne_of_none hL6.sp.obj hpD
    have nxf : xs ≠ pf := ne_of_none hL13.sp.obj hpf
    have nDf : pD ≠ pf := ne_of_none (s713 _ _ hnD) hpf
    have s719 : Same H7 H19 := s714.trans s1419
    walk_at "go"
    have hL20 := hL19.setL upd_same (Off.upd (o := .lst []) (List.mem_singleton.mpr rfl)) upd_same
    have hD20 : (upd H19 pf (.lst [])) pD = some (.lst due) := by rw [upd_ne nDf]; exact s719 _ _ hnD
    have t1920 : TupS H7 (upd H19 pf (.lst [])) := fun c ys e => by
      have := s719 _ _ e
      rw [upd_ne (fun z => by rw [z, hpf19] at this; cases this)]
      exact this
    have h00 : (upd (upd (upd H pD (.lst due)) pf (.lst fv)) pf (.lst [])) xs = none := by rw [upd_ne nxf, upd_ne nxf, upd_ne nxD]; exact hxs0
    generalize upd H19 pf (.lst []) = H20 at hL20 hD20 t1920 ⊢
    have hDD : (upd (upd (upd H pD (.lst due)) pf (.lst fv)) pf (.lst [])) pD = some (.lst due) := by rw [upd_ne nDf, upd_ne nDf]; exact upd_same
    generalize upd (upd (upd H pD (.lst due)) pf (.lst fv)) pf (.lst []) = HH at hL20 h00 hDD
    clear hLd hL14 hL16 hL17 hL19 hTf hfv hTo hne hpf19 hnc
    dsimp only
    walk_at "if"
    refine x_qTake hkp hL20.sp ?_
    walk_at "go"
    rename_i r2 dx2 H21 hr2 hdx2 hne2 hs21 hn21 hdd2
    refine x_bTake hkp hL20 h00 hs21 hr2 (rl_Eldest T hn21) fun H22 G22 hL22 e22 t22 => ?_
    have hL22' : LB P w K mg base T .store T.C_Store HH H22 xs G22 tt { s6 with ru := .by (gk 2) } := hL22
    clear hL22
    walk_at "go"
    refine x_iteD (fun _ => ?_) (fun z => absurd rfl z)
    walk_at "go"
    refine ⟨HH, xs, G22, tt, { s6 with ru := .by (gk 2) }, rfl, hL22', hF6.own.bnd.fits (by omega), (hF6.rm hMt _).1, (hF6.rm hMt _).2, fun H23 G23 hL23 e23 t23 => ?_⟩
    obtain ⟨pv, hpv, hpl⟩ := hL23.papers hkp
    have hpv0 : pv = [] := List.eq_nil_of_length_eq_zero (by rw [hpl]; show s6.pp.length = 0; rw [hF6.pp]; rfl)
    subst hpv0
    have ho23 := hL23.sp.obj
    unfold objF coreF restF at ho23
    walk_at "go"
    rename_i pn H24 hpn hs24 hn24
    refine x_neS2 (d := .list []) (.lst (SqL.of (hs24 _ _ hpv)) .nil) (.lst (SqL.of hn24) .nil) (Sh.list (k := 8) fun d h => by simp at h) ?_
    have hL24 := hL23.mono hs24
    walk_at "go"
    refine x_qFull hkp hL24.sp fun pg H25 hs25 hpg hTg => ?_
    have hTg : TL H25 pg (fullQ .store tt s6.q s6.k) := hTg
    rw [hful.1] at hTg
    have hL25 := hL24.mono hs25
    have hD25 : H25 pD = some (.lst due) := hL25.same _ _ hDD
    have hq25 : SqL K H25 pD due := SqL.of hD25
    have t725 : TupS H7 H25 := fun c ys e => hs25 _ _ (hs24 _ _ (t23 _ _ (t22 _ _ (hs21 _ _ (t1920 _ _ e)))))
    walk_at "go"
    rename_i pc2 H26 hpc2 hs26 hnc2
    have hT26 : TL H26 pc2 ((List.range (M / P0.toNat)).map (talN P0 M)) := by
      rw [hMq, cutV_to] at hnc2
      refine ⟨_, hnc2, ?_⟩
      have h1 := (hdue.mono (fun c ys e => hs26 _ _ (t725 c ys e) : TupS H7 H26)).take (M / P0.toNat)
      rw [← List.map_take, List.take_range, Nat.min_eq_left (by have := hful.2; omega)] at h1
      exact h1
    refine ⟨pg, pc2, _, rfl, hTg.mono hs26, hT26, hk16, fun H27 hs27 => ?_⟩
    have hL27 := (hL25.mono hs26).mono hs27
    have erc : G23.rc = x := by rw [e23, e22]; exact e6
    obtain ⟨stc, hCc, _⟩ := hL27.sp.chip
    rw [erc] at hCc
    walk_at "go"
    refine x_mDeeds hCc ⟨x, _, _, rfl, hCc, fun p vs' H28 hs28 hp28 hn28 hla => ?_⟩
    have hlen : vs'.length = M := by rw [hla.1]; exact hF6.log
    walk_at "go"
    rw [hlen, decide_eq_true rfl]
    exact q _
end
theorem txt_of {l : PySem.W.OpenLaw} {w : World} {K : PySem.W.Frag} {h : Heap} {mg : Str → Option Value} {fa : Addr} {A : List Addr} (X : K.In h) (G : h.Ns mainGlobals mg) (hfa : mg "law" = some (.ref fa)) (c : SaysK fsK fnK K A) :
    ∃ fd : FuncData, (∀ (s : Shared) (v : Value), BindsTo s fd ⟨[v], []⟩ [("_law_script", v)]) ∧ ∀ base : Heap, K.In base → base.Ns mainGlobals mg → FnOk l.prog w K mg base (L2.CX l.prog w) 28 fa fd ["_law_script"] (spLaw K) := by
  have hh := c.facts
  unfold fsK at hh
  obtain ⟨hc0, hh⟩ := He.ba hh
  obtain ⟨a_mark_of, a_bits_of, a_is_whole, a_is_within, a_endurance, a__law_cell_at, a__law_whole, a__law_size, a__law_tally, a__law_alike, a__law_rows, a__law_refused, a_law, aC_Book, pg_Book, hd_Book, po_Book, sa_Book, na_Book_blocks, na_Book_pages, na_Book_where, na_Book_names, na_Book_live, na_Book_filled, na_Book_born⟩ := fsK0_ok hc0
  obtain ⟨hc1, hh⟩ := He.ba hh
  obtain ⟨na_Book_stamp, at_Book_init, fn_Book_init, mi_Book, kc_Book, at_Book_mark, fn_Book_mark, at_Book_note, fn_Book_note, at_Book_forget, fn_Book_forget, at_Book_emptied, fn_Book_emptied, at_Book_live_pages, fn_Book_live_pages, at_Book_held, fn_Book_held, at_Book_tell, fn_Book_tell, aC_Plain, pg_Plain, hd_Plain, po_Plain, sa_Plain, na_Plain_chip⟩ := fsK1_ok hc1
  obtain ⟨hc2, hh⟩ := He.ba hh
  obtain ⟨na_Plain_terms, na_Plain_book, at_Plain_init, fn_Plain_init, mi_Plain, kc_Plain, at_Plain_good, fn_Plain_good, at_Plain_free, fn_Plain_free, at_Plain_part, fn_Plain_part, at_Plain_spot, fn_Plain_spot, at_Plain_reserve, fn_Plain_reserve, at_Plain_ready, fn_Plain_ready, at_Plain_make_ready, fn_Plain_make_ready, at_Plain_set_down, fn_Plain_set_down, at_Plain_lay, fn_Plain_lay, at_Plain_need_sheet⟩ := fsK2_ok hc2
  obtain ⟨hc3, hh⟩ := He.ba hh
  obtain ⟨fn_Plain_need_sheet, at_Plain_write, fn_Plain_write, at_Plain_read, fn_Plain_read, at_Plain_held, fn_Plain_held, aC_Store, pg_Store, hd_Store, po_Store, sa_Store, na_Store_rule, na_Store_papers, na_Store_chip, na_Store_terms, na_Store_book, at_Store_init, fn_Store_init, mi_Store, kc_Store, at_Store_good, at_Store_free, at_Store_part, at_Store_spot⟩ := fsK3_ok hc3
  obtain ⟨hc4, hh⟩ := He.ba hh
  obtain ⟨at_Store_reserve, fn_Store_reserve, at_Store_ready, at_Store_make_ready, fn_Store_make_ready, at_Store_set_down, at_Store_lay, at_Store_need_sheet, at_Store_write, at_Store_read, at_Store_held, at_Store_take, fn_Store_take, at_Store_space, fn_Store_space, at_Store_tally, fn_Store_tally, at_Store_full_ones, fn_Store_full_ones, at_Store_options, fn_Store_options, at_Store_otherwise, fn_Store_otherwise, at_Store_choice, fn_Store_choice⟩ := fsK4_ok hc4
  obtain ⟨hc5, hh⟩ := He.ba hh
  obtain ⟨at_Store_value_for, fn_Store_value_for, at_Store_moved, fn_Store_moved, at_Store_wiped, fn_Store_wiped, at_Store_make_room, fn_Store_make_room, aC_Chip, pg_Chip, hd_Chip, po_Chip, sa_Chip, na_Chip_blocks, na_Chip_pages, na_Chip_most, na_Chip_lasts, na_Chip_stuff, na_Chip_tried, na_Chip_clearings, na_Chip_broken, na_Chip_left, na_Chip_log, at_Chip_init, fn_Chip_init⟩ := fsK5_ok hc5
  obtain ⟨hc6, hh⟩ := He.ba hh
  obtain ⟨mi_Chip, kc_Chip, at_Chip_need_page, fn_Chip_need_page, at_Chip_need_block, fn_Chip_need_block, at_Chip_need_power, fn_Chip_need_power, at_Chip_need_good, fn_Chip_need_good, at_Chip_goes_well, fn_Chip_goes_well, at_Chip_put, fn_Chip_put, at_Chip_wipe, fn_Chip_wipe, at_Chip_read, fn_Chip_read, at_Chip_is_dark, fn_Chip_is_dark, at_Chip_cleared, fn_Chip_cleared, at_Chip_failed, fn_Chip_failed, at_Chip_deeds⟩ := fsK6_ok hc6
  obtain ⟨hc7, hh⟩ := He.ba hh
  obtain ⟨fn_Chip_deeds, aC_Rule, pg_Rule, hd_Rule, po_Rule, sa_Rule, mi_Rule, kc_Rule, oi_Rule, at_Rule_goes_ahead, fn_Rule_goes_ahead, at_Rule_choose, fn_Rule_choose, aC_Fewest, pg_Fewest, hd_Fewest, po_Fewest, sa_Fewest, mi_Fewest, kc_Fewest, oi_Fewest, at_Fewest_goes_ahead, fn_Fewest_goes_ahead, at_Fewest_choose, aC_Eldest⟩ := fsK7_ok hc7
  obtain ⟨hc8, hh⟩ := He.ba hh
  obtain ⟨pg_Eldest, hd_Eldest, po_Eldest, sa_Eldest, mi_Eldest, kc_Eldest, oi_Eldest, at_Eldest_goes_ahead, fn_Eldest_goes_ahead, at_Eldest_choose, aC_Terms, pg_Terms, hd_Terms, po_Terms, sa_Terms, na_Terms_blocks, na_Terms_pages, na_Terms_sheets, na_Terms_share, na_Terms_ill, na_Terms_spread, at_Terms_init, fn_Terms_init, mi_Terms, kc_Terms⟩ := fsK8_ok hc8
  obtain ⟨hc9, hh⟩ := He.ba hh
  obtain ⟨at_Terms_closed, fn_Terms_closed, aC_WornError, xq_WornError, xk_WornError, xr_WornError, xt_WornError, aC_NoChip, xq_NoChip, xk_NoChip, xr_NoChip, xt_NoChip, aC_NoPlace, xq_NoPlace, xk_NoPlace, xr_NoPlace, xt_NoPlace, aC_PowerGone, xq_PowerGone, xk_PowerGone, xr_PowerGone, xt_PowerGone, aC_BlockFailed, xl_BlockFailed, xs_BlockFailed⟩ := fsK9_ok hc9
  obtain ⟨hc10, hh⟩ := He.ba hh
  obtain ⟨xr_BlockFailed, xy_BlockFailed, xk_BlockFailed, xi_BlockFailed, xt_BlockFailed, xf_BlockFailed, nx_BlockFailed_block, aC_NotClear, xl_NotClear, xs_NotClear, xr_NotClear, xy_NotClear, xk_NotClear, xi_NotClear, xt_NotClear, xf_NotClear, nx_NotClear_page, aC_NoTerms, xq_NoTerms, xk_NoTerms, xr_NoTerms, xt_NoTerms, aC_NoSheet, xq_NoSheet, xk_NoSheet⟩ := fsK10_ok hc10
  obtain ⟨hc11, hh⟩ := He.ba hh
  obtain ⟨xr_NoSheet, xt_NoSheet, aC_NoValue, xq_NoValue, xk_NoValue, xr_NoValue, xt_NoValue, aC_Full, xq_Full, xk_Full, xr_Full, xt_Full, aC_NoRoom, xq_NoRoom, xk_NoRoom, xr_NoRoom, xt_NoRoom, wa_WornError, wr_WornError, wf_WornError, wa_Plain, wr_Plain, wf_Plain, ia_Store, in_Store⟩ := fsK11_ok hc11
  obtain ⟨hc12, hh⟩ := He.ba hh
  obtain ⟨it_Store, io_Store, kd_Store_Plain, em_NoRoom_NoRoom, em_NoRoom_WornError, em_NoTerms_NoRoom, em_NoTerms_WornError, em_NoSheet_NoRoom, em_NoSheet_WornError, em_NoValue_NoRoom, em_NoValue_WornError, em_Full_NoRoom, em_Full_WornError, em_NoChip_NoRoom, em_NoChip_WornError, em_NoPlace_NoRoom, em_NoPlace_WornError, em_PowerGone_NoRoom, em_PowerGone_WornError, em_BlockFailed_NoRoom, em_BlockFailed_WornError, em_NotClear_NoRoom, em_NotClear_WornError, eg_NoRoom, ek_NoRoom⟩ := fsK12_ok hc12
  obtain ⟨hc13, hh⟩ := He.ba hh
  obtain ⟨es_NoRoom, ed_NoRoom, ea_NoRoom, en_NoRoom, et_NoRoom, eo_NoRoom, ki_NoRoom_ValueError, kd_NoRoom_NoRoom, z_len, z_isinstance, z_min, z_max, z_sorted, z_int, z_str, z_list, z_tuple, z_bool, z_range, z_zip, z_ValueError, v_ROLL, vr_ROLL, v_MANY, vr_MANY⟩ := fsK13_ok hc13
  obtain ⟨v_MOST, vr_MOST⟩ := fsK14_ok hh
  have e := hfa.symm.trans (PySem.W.mg_of X G a_law)
  cases e
  obtain ⟨fd_BlockFailed_init, D_BlockFailed_init⟩ := c.def_ 0 (d := ⟨40, "__init__", "BlockFailed.__init__", defArgs s_BlockFailed_init, defBody s_BlockFailed_init, defScope s_BlockFailed_init, []⟩) rfl
  have k_BlockFailed_init : PySem.W.keepIn K (.ref (A.getD 40 0)) = true := D_BlockFailed_init.kp
  have F_BlockFailed_init : Fun K "__init__" "BlockFailed.__init__" s_BlockFailed_init (A.getD 40 0) fd_BlockFailed_init := funK_of D_BlockFailed_init
  have b_BlockFailed_init := F_BlockFailed_init.binds (ps := ["self", "block"]) fun _ _ _ _ _ _ us hl => match us, hl with | [_, _], _ => rfl
  obtain ⟨fd_NotClear_init, D_NotClear_init⟩ := c.def_ 1 (d := ⟨41, "__init__", "NotClear.__init__", defArgs s_NotClear_init, defBody s_NotClear_init, defScope s_NotClear_init, []⟩) rfl
  have k_NotClear_init : PySem.W.keepIn K (.ref (A.getD 41 0)) = true := D_NotClear_init.kp
  have F_NotClear_init : Fun K "__init__" "NotClear.__init__" s_NotClear_init (A.getD 41 0) fd_NotClear_init := funK_of D_NotClear_init
  have b_NotClear_init := F_NotClear_init.binds (ps := ["self", "page"]) fun _ _ _ _ _ _ us hl => match us, hl with | [_, _], _ => rfl
  obtain ⟨fd_mark_of, D_mark_of⟩ := c.def_ 2 (d := ⟨42, "mark_of", "mark_of", defArgs s_mark_of, defBody s_mark_of, defScope s_mark_of, []⟩) rfl
  have k_mark_of : PySem.W.keepIn K (.ref (A.getD 42 0)) = true := D_mark_of.kp
  have F_mark_of : Fun K "mark_of" "mark_of" s_mark_of (A.getD 42 0) fd_mark_of := funK_of D_mark_of
  have b_mark_of := F_mark_of.binds (ps := ["stamp", "name"]) fun _ _ _ _ _ _ us hl => match us, hl with | [_, _], _ => rfl
  obtain ⟨fd_bits_of, D_bits_of⟩ := c.def_ 3 (d := ⟨43, "bits_of", "bits_of", defArgs s_bits_of, defBody s_bits_of, defScope s_bits_of, []⟩) rfl
  have k_bits_of : PySem.W.keepIn K (.ref (A.getD 43 0)) = true := D_bits_of.kp
  have F_bits_of : Fun K "bits_of" "bits_of" s_bits_of (A.getD 43 0) fd_bits_of := funK_of D_bits_of
  have b_bits_of := F_bits_of.binds (ps := ["sheets"]) fun _ _ _ _ _ _ us hl => match us, hl with | [_], _ => rfl
  obtain ⟨fd_Book_init, D_Book_init⟩ := c.def_ 4 (d := ⟨44, "__init__", "Book.__init__", defArgs s_Book_init, defBody s_Book_init, defScope s_Book_init, []⟩) rfl
  have k_Book_init : PySem.W.keepIn K (.ref (A.getD 44 0)) = true := D_Book_init.kp
  have F_Book_init : Fun K "__init__" "Book.__init__" s_Book_init (A.getD 44 0) fd_Book_init := funK_of D_Book_init
  have b_Book_init := F_Book_init.binds (ps := ["self", "blocks", "pages"]) fun _ _ _ _ _ _ us hl => match us, hl with | [_, _, _], _ => rfl
  obtain ⟨fd_Book_mark, D_Book_mark⟩ := c.def_ 5 (d := ⟨45, "mark", "Book.mark", defArgs s_Book_mark, defBody s_Book_mark, defScope s_Book_mark, []⟩) rfl
  have k_Book_mark : PySem.W.keepIn K (.ref (A.getD 45 0)) = true := D_Book_mark.kp
  have F_Book_mark : Fun K "mark" "Book.mark" s_Book_mark (A.getD 45 0) fd_Book_mark := funK_of D_Book_mark
  have b_Book_mark := F_Book_mark.binds (ps := ["self", "name"]) fun _ _ _ _ _ _ us hl => match us, hl with | [_, _], _ => rfl
  obtain ⟨fd_Book_note, D_Book_note⟩ := c.def_ 6 (d := ⟨46, "note", "Book.note", defArgs s_Book_note, defBody s_Book_note, defScope s_Book_note, []⟩) rfl
  have k_Book_note : PySem.W.keepIn K (.ref (A.getD 46 0)) = true := D_Book_note.kp
  have F_Book_note : Fun K "note" "Book.note" s_Book_note (A.getD 46 0) fd_Book_note := funK_of D_Book_note
  have b_Book_note := F_Book_note.binds (ps := ["self", "page", "name"]) fun _ _ _ _ _ _ us hl => match us, hl with | [_, _, _], _ => rfl
  obtain ⟨fd_Book_forget, D_Book_forget⟩ := c.def_ 7 (d := ⟨47, "forget", "Book.forget", defArgs s_Book_forget, defBody s_Book_forget, defScope s_Book_forget, []⟩) rfl
  have k_Book_forget : PySem.W.keepIn K (.ref (A.getD 47 0)) = true := D_Book_forget.kp
  have F_Book_forget : Fun K "forget" "Book.forget" s_Book_forget (A.getD 47 0) fd_Book_forget := funK_of D_Book_forget
  have b_Book_forget := F_Book_forget.binds (ps := ["self", "name"]) fun _ _ _ _ _ _ us hl => match us, hl with | [_, _], _ => rfl
  obtain ⟨fd_Book_emptied, D_Book_emptied⟩ := c.def_ 8 (d := ⟨48, "emptied", "Book.emptied", defArgs s_Book_emptied, defBody s_Book_emptied, defScope s_Book_emptied, []⟩) rfl
  have k_Book_emptied : PySem.W.keepIn K (.ref (A.getD 48 0)) = true := D_Book_emptied.kp
  have F_Book_emptied : Fun K "emptied" "Book.emptied" s_Book_emptied (A.getD 48 0) fd_Book_emptied := funK_of D_Book_emptied
  have b_Book_emptied := F_Book_emptied.binds (ps := ["self", "block"]) fun _ _ _ _ _ _ us hl => match us, hl with | [_, _], _ => rfl
  obtain ⟨fd_Book_live_pages, D_Book_live_pages⟩ := c.def_ 9 (d := ⟨49, "live_pages", "Book.live_pages", defArgs s_Book_live_pages, defBody s_Book_live_pages, defScope s_Book_live_pages, []⟩) rfl
  have k_Book_live_pages : PySem.W.keepIn K (.ref (A.getD 49 0)) = true := D_Book_live_pages.kp
  have F_Book_live_pages : Fun K "live_pages" "Book.live_pages" s_Book_live_pages (A.getD 49 0) fd_Book_live_pages := funK_of D_Book_live_pages
  have b_Book_live_pages := F_Book_live_pages.binds (ps := ["self", "block"]) fun _ _ _ _ _ _ us hl => match us, hl with | [_, _], _ => rfl
  obtain ⟨fd_Book_held, D_Book_held⟩ := c.def_ 10 (d := ⟨50, "held", "Book.held", defArgs s_Book_held, defBody s_Book_held, defScope s_Book_held, []⟩) rfl
  have k_Book_held : PySem.W.keepIn K (.ref (A.getD 50 0)) = true := D_Book_held.kp
  have F_Book_held : Fun K "held" "Book.held" s_Book_held (A.getD 50 0) fd_Book_held := funK_of D_Book_held
  have b_Book_held := F_Book_held.binds (ps := ["self"]) fun _ _ _ _ _ _ us hl => match us, hl with | [_], _ => rfl
  obtain ⟨fd_Book_tell, D_Book_tell⟩ := c.def_ 11 (d := ⟨51, "tell", "Book.tell", defArgs s_Book_tell, defBody s_Book_tell, defScope s_Book_tell, []⟩) rfl
  have k_Book_tell : PySem.W.keepIn K (.ref (A.getD 51 0)) = true := D_Book_tell.kp
  have F_Book_tell : Fun K "tell" "Book.tell" s_Book_tell (A.getD 51 0) fd_Book_tell := funK_of D_Book_tell
  have b_Book_tell := F_Book_tell.binds (ps := ["self"]) fun _ _ _ _ _ _ us hl => match us, hl with | [_], _ => rfl
  obtain ⟨fd_is_whole, D_is_whole⟩ := c.def_ 12 (d := ⟨52, "is_whole", "is_whole", defArgs s_is_whole, defBody s_is_whole, defScope s_is_whole, []⟩) rfl
  have k_is_whole : PySem.W.keepIn K (.ref (A.getD 52 0)) = true := D_is_whole.kp
  have F_is_whole : Fun K "is_whole" "is_whole" s_is_whole (A.getD 52 0) fd_is_whole := funK_of D_is_whole
  have b_is_whole := F_is_whole.binds (ps := ["thing"]) fun _ _ _ _ _ _ us hl => match us, hl with | [_], _ => rfl
  obtain ⟨fd_is_within, D_is_within⟩ := c.def_ 13 (d := ⟨53, "is_within", "is_within", defArgs s_is_within, defBody s_is_within, defScope s_is_within, []⟩) rfl
  have k_is_within : PySem.W.keepIn K (.ref (A.getD 53 0)) = true := D_is_within.kp
  have F_is_within : Fun K "is_within" "is_within" s_is_within (A.getD 53 0) fd_is_within := funK_of D_is_within
  have b_is_within := F_is_within.binds (ps := ["thing", "low", "high"]) fun _ _ _ _ _ _ us hl => match us, hl with | [_, _, _], _ => rfl
  obtain ⟨fd_Plain_init, D_Plain_init⟩ := c.def_ 14 (d := ⟨54, "__init__", "Plain.__init__", defArgs s_Plain_init, defBody s_Plain_init, defScope s_Plain_init, []⟩) rfl
  have k_Plain_init : PySem.W.keepIn K (.ref (A.getD 54 0)) = true := D_Plain_init.kp
  have F_Plain_init : Fun K "__init__" "Plain.__init__" s_Plain_init (A.getD 54 0) fd_Plain_init := funK_of D_Plain_init
  have b_Plain_init := F_Plain_init.binds (ps := ["self", "chip", "terms"]) fun _ _ _ _ _ _ us hl => match us, hl with | [_, _, _], _ => rfl
  obtain ⟨fd_Plain_good, D_Plain_good⟩ := c.def_ 15 (d := ⟨55, "good", "Plain.good", defArgs s_Plain_good, defBody s_Plain_good, defScope s_Plain_good, []⟩) rfl
  have k_Plain_good : PySem.W.keepIn K (.ref (A.getD 55 0)) = true := D_Plain_good.kp
  have F_Plain_good : Fun K "good" "Plain.good" s_Plain_good (A.getD 55 0) fd_Plain_good := funK_of D_Plain_good
  have b_Plain_good := F_Plain_good.binds (ps := ["self"]) fun _ _ _ _ _ _ us hl => match us, hl with | [_], _ => rfl
  obtain ⟨fd_Plain_free, D_Plain_free⟩ := c.def_ 16 (d := ⟨56, "free", "Plain.free", defArgs s_Plain_free, defBody s_Plain_free, defScope s_Plain_free, []⟩) rfl
  have k_Plain_free : PySem.W.keepIn K (.ref (A.getD 56 0)) = true := D_Plain_free.kp
  have F_Plain_free : Fun K "free" "Plain.free" s_Plain_free (A.getD 56 0) fd_Plain_free := funK_of D_Plain_free
  have b_Plain_free := F_Plain_free.binds (ps := ["self"]) fun _ _ _ _ _ _ us hl => match us, hl with | [_], _ => rfl
  obtain ⟨fd_Plain_part, D_Plain_part⟩ := c.def_ 17 (d := ⟨57, "part", "Plain.part", defArgs s_Plain_part, defBody s_Plain_part, defScope s_Plain_part, []⟩) rfl
  have k_Plain_part : PySem.W.keepIn K (.ref (A.getD 57 0)) = true := D_Plain_part.kp
  have F_Plain_part : Fun K "part" "Plain.part" s_Plain_part (A.getD 57 0) fd_Plain_part := funK_of D_Plain_part
  have b_Plain_part := F_Plain_part.binds (ps := ["self"]) fun _ _ _ _ _ _ us hl => match us, hl with | [_], _ => rfl
  obtain ⟨fd_Plain_spot, D_Plain_spot⟩ := c.def_ 18 (d := ⟨58, "spot", "Plain.spot", defArgs s_Plain_spot, defBody s_Plain_spot, defScope s_Plain_spot, []⟩) rfl
  have k_Plain_spot : PySem.W.keepIn K (.ref (A.getD 58 0)) = true := D_Plain_spot.kp
  have F_Plain_spot : Fun K "spot" "Plain.spot" s_Plain_spot (A.getD 58 0) fd_Plain_spot := funK_of D_Plain_spot
  have b_Plain_spot := F_Plain_spot.binds (ps := ["self"]) fun _ _ _ _ _ _ us hl => match us, hl with | [_], _ => rfl
  obtain ⟨fd_Plain_reserve, D_Plain_reserve⟩ := c.def_ 19 (d := ⟨59, "reserve", "Plain.reserve", defArgs s_Plain_reserve, defBody s_Plain_reserve, defScope s_Plain_reserve, []⟩) rfl
  have k_Plain_reserve : PySem.W.keepIn K (.ref (A.getD 59 0)) = true := D_Plain_reserve.kp
  have F_Plain_reserve : Fun K "reserve" "Plain.reserve" s_Plain_reserve (A.getD 59 0) fd_Plain_reserve := funK_of D_Plain_reserve
  have b_Plain_reserve := F_Plain_reserve.binds (ps := ["self"]) fun _ _ _ _ _ _ us hl => match us, hl with | [_], _ => rfl
  obtain ⟨fd_Plain_ready, D_Plain_ready⟩ := c.def_ 20 (d := ⟨60, "ready", "Plain.ready", defArgs s_Plain_ready, defBody s_Plain_ready, defScope s_Plain_ready, []⟩) rfl
  have k_Plain_ready : PySem.W.keepIn K (.ref (A.getD 60 0)) = true := D_Plain_ready.kp
  have F_Plain_ready : Fun K "ready" "Plain.ready" s_Plain_ready (A.getD 60 0) fd_Plain_ready := funK_of D_Plain_ready
  have b_Plain_ready := F_Plain_ready.binds (ps := ["self"]) fun _ _ _ _ _ _ us hl => match us, hl with | [_], _ => rfl
  obtain ⟨fd_Plain_make_ready, D_Plain_make_ready⟩ := c.def_ 21 (d := ⟨61, "make_ready", "Plain.make_ready", defArgs s_Plain_make_ready, defBody s_Plain_make_ready, defScope s_Plain_make_ready, []⟩) rfl
  have k_Plain_make_ready : PySem.W.keepIn K (.ref (A.getD 61 0)) = true := D_Plain_make_ready.kp
  have F_Plain_make_ready : Fun K "make_ready" "Plain.make_ready" s_Plain_make_ready (A.getD 61 0) fd_Plain_make_ready := funK_of D_Plain_make_ready
  have b_Plain_make_ready := F_Plain_make_ready.binds (ps := ["self"]) fun _ _ _ _ _ _ us hl => match us, hl with | [_], _ => rfl
  obtain ⟨fd_Plain_set_down, D_Plain_set_down⟩ := c.def_ 22 (d := ⟨62, "set_down", "Plain.set_down", defArgs s_Plain_set_down, defBody s_Plain_set_down, defScope s_Plain_set_down, []⟩) rfl
  have k_Plain_set_down : PySem.W.keepIn K (.ref (A.getD 62 0)) = true := D_Plain_set_down.kp
  have F_Plain_set_down : Fun K "set_down" "Plain.set_down" s_Plain_set_down (A.getD 62 0) fd_Plain_set_down := funK_of D_Plain_set_down
  have b_Plain_set_down := F_Plain_set_down.binds (ps := ["self", "name", "value"]) fun _ _ _ _ _ _ us hl => match us, hl with | [_, _, _], _ => rfl
  obtain ⟨fd_Plain_lay, D_Plain_lay⟩ := c.def_ 23 (d := ⟨63, "lay", "Plain.lay", defArgs s_Plain_lay, defBody s_Plain_lay, defScope s_Plain_lay, []⟩) rfl
  have k_Plain_lay : PySem.W.keepIn K (.ref (A.getD 63 0)) = true := D_Plain_lay.kp
  have F_Plain_lay : Fun K "lay" "Plain.lay" s_Plain_lay (A.getD 63 0) fd_Plain_lay := funK_of D_Plain_lay
  have b_Plain_lay := F_Plain_lay.binds (ps := ["self", "name", "value"]) fun _ _ _ _ _ _ us hl => match us, hl with | [_, _, _], _ => rfl
  obtain ⟨fd_Plain_need_sheet, D_Plain_need_sheet⟩ := c.def_ 24 (d := ⟨64, "need_sheet", "Plain.need_sheet", defArgs s_Plain_need_sheet, defBody s_Plain_need_sheet, defScope s_Plain_need_sheet, []⟩) rfl
  have k_Plain_need_sheet : PySem.W.keepIn K (.ref (A.getD 64 0)) = true := D_Plain_need_sheet.kp
  have F_Plain_need_sheet : Fun K "need_sheet" "Plain.need_sheet" s_Plain_need_sheet (A.getD 64 0) fd_Plain_need_sheet := funK_of D_Plain_need_sheet
  have b_Plain_need_sheet := F_Plain_need_sheet.binds (ps := ["self", "sheet"]) fun _ _ _ _ _ _ us hl => match us, hl with | [_, _], _ => rfl
  obtain ⟨fd_Plain_write, D_Plain_write⟩ := c.def_ 25 (d := ⟨65, "write", "Plain.write", defArgs s_Plain_write, defBody s_Plain_write, defScope s_Plain_write, []⟩) rfl
  have k_Plain_write : PySem.W.keepIn K (.ref (A.getD 65 0)) = true := D_Plain_write.kp
  have F_Plain_write : Fun K "write" "Plain.write" s_Plain_write (A.getD 65 0) fd_Plain_write := funK_of D_Plain_write
  have b_Plain_write := F_Plain_write.binds (ps := ["self", "sheet", "value"]) fun _ _ _ _ _ _ us hl => match us, hl with | [_, _, _], _ => rfl
  obtain ⟨fd_Plain_read, D_Plain_read⟩ := c.def_ 26 (d := ⟨66, "read", "Plain.read", defArgs s_Plain_read, defBody s_Plain_read, defScope s_Plain_read, []⟩) rfl
  have k_Plain_read : PySem.W.keepIn K (.ref (A.getD 66 0)) = true := D_Plain_read.kp
  have F_Plain_read : Fun K "read" "Plain.read" s_Plain_read (A.getD 66 0) fd_Plain_read := funK_of D_Plain_read
  have b_Plain_read := F_Plain_read.binds (ps := ["self", "sheet"]) fun _ _ _ _ _ _ us hl => match us, hl with | [_, _], _ => rfl
  obtain ⟨fd_Plain_held, D_Plain_held⟩ := c.def_ 27 (d := ⟨67, "held", "Plain.held", defArgs s_Plain_held, defBody s_Plain_held, defScope s_Plain_held, []⟩) rfl
  have k_Plain_held : PySem.W.keepIn K (.ref (A.getD 67 0)) = true := D_Plain_held.kp
  have F_Plain_held : Fun K "held" "Plain.held" s_Plain_held (A.getD 67 0) fd_Plain_held := funK_of D_Plain_held
  have b_Plain_held := F_Plain_held.binds (ps := ["self"]) fun _ _ _ _ _ _ us hl => match us, hl with | [_], _ => rfl
  obtain ⟨fd_Store_init, D_Store_init⟩ := c.def_ 28 (d := ⟨68, "__init__", "Store.__init__", defArgs s_Store_init, defBody s_Store_init, defScope s_Store_init, []⟩) rfl
  have k_Store_init : PySem.W.keepIn K (.ref (A.getD 68 0)) = true := D_Store_init.kp
  have F_Store_init : Fun K "__init__" "Store.__init__" s_Store_init (A.getD 68 0) fd_Store_init := funK_of D_Store_init
  have b_Store_init := F_Store_init.binds (ps := ["self", "chip", "terms", "rule"]) fun _ _ _ _ _ _ us hl => match us, hl with | [_, _, _, _], _ => rfl
  obtain ⟨fd_Store_take, D_Store_take⟩ := c.def_ 29 (d := ⟨69, "take", "Store.take", defArgs s_Store_take, defBody s_Store_take, defScope s_Store_take, []⟩) rfl
  have k_Store_take : PySem.W.keepIn K (.ref (A.getD 69 0)) = true := D_Store_take.kp
  have F_Store_take : Fun K "take" "Store.take" s_Store_take (A.getD 69 0) fd_Store_take := funK_of D_Store_take
  have b_Store_take := F_Store_take.binds (ps := ["self", "rule"]) fun _ _ _ _ _ _ us hl => match us, hl with | [_, _], _ => rfl
  obtain ⟨fd_Store_reserve, D_Store_reserve⟩ := c.def_ 30 (d := ⟨70, "reserve", "Store.reserve", defArgs s_Store_reserve, defBody s_Store_reserve, defScope s_Store_reserve, []⟩) rfl
  have k_Store_reserve : PySem.W.keepIn K (.ref (A.getD 70 0)) = true := D_Store_reserve.kp
  have F_Store_reserve : Fun K "reserve" "Store.reserve" s_Store_reserve (A.getD 70 0) fd_Store_reserve := funK_of D_Store_reserve
  have b_Store_reserve := F_Store_reserve.binds (ps := ["self"]) fun _ _ _ _ _ _ us hl => match us, hl with | [_], _ => rfl
  obtain ⟨fd_Store_space, D_Store_space⟩ := c.def_ 31 (d := ⟨71, "space", "Store.space", defArgs s_Store_space, defBody s_Store_space, defScope s_Store_space, []⟩) rfl
  have k_Store_space : PySem.W.keepIn K (.ref (A.getD 71 0)) = true := D_Store_space.kp
  have F_Store_space : Fun K "space" "Store.space" s_Store_space (A.getD 71 0) fd_Store_space := funK_of D_Store_space
  have b_Store_space := F_Store_space.binds (ps := ["self"]) fun _ _ _ _ _ _ us hl => match us, hl with | [_], _ => rfl
  obtain ⟨fd_Store_tally, D_Store_tally⟩ := c.def_ 32 (d := ⟨72, "tally", "Store.tally", defArgs s_Store_tally, defBody s_Store_tally, defScope s_Store_tally, []⟩) rfl
  have k_Store_tally : PySem.W.keepIn K (.ref (A.getD 72 0)) = true := D_Store_tally.kp
  have F_Store_tally : Fun K "tally" "Store.tally" s_Store_tally (A.getD 72 0) fd_Store_tally := funK_of D_Store_tally
  have b_Store_tally := F_Store_tally.binds (ps := ["self", "block"]) fun _ _ _ _ _ _ us hl => match us, hl with | [_, _], _ => rfl
  obtain ⟨fd_Store_full_ones, D_Store_full_ones⟩ := c.def_ 33 (d := ⟨73, "full_ones", "Store.full_ones", defArgs s_Store_full_ones, defBody s_Store_full_ones, defScope s_Store_full_ones, []⟩) rfl
  have k_Store_full_ones : PySem.W.keepIn K (.ref (A.getD 73 0)) = true := D_Store_full_ones.kp
  have F_Store_full_ones : Fun K "full_ones" "Store.full_ones" s_Store_full_ones (A.getD 73 0) fd_Store_full_ones := funK_of D_Store_full_ones
  have b_Store_full_ones := F_Store_full_ones.binds (ps := ["self"]) fun _ _ _ _ _ _ us hl => match us, hl with | [_], _ => rfl
  obtain ⟨fd_Store_options, D_Store_options⟩ := c.def_ 34 (d := ⟨74, "options", "Store.options", defArgs s_Store_options, defBody s_Store_options, defScope s_Store_options, []⟩) rfl
  have k_Store_options : PySem.W.keepIn K (.ref (A.getD 74 0)) = true := D_Store_options.kp
  have F_Store_options : Fun K "options" "Store.options" s_Store_options (A.getD 74 0) fd_Store_options := funK_of D_Store_options
  have b_Store_options := F_Store_options.binds (ps := ["self"]) fun _ _ _ _ _ _ us hl => match us, hl with | [_], _ => rfl
  obtain ⟨fd_Store_otherwise, D_Store_otherwise⟩ := c.def_ 35 (d := ⟨75, "otherwise", "Store.otherwise", defArgs s_Store_otherwise, defBody s_Store_otherwise, defScope s_Store_otherwise, []⟩) rfl
  have k_Store_otherwise : PySem.W.keepIn K (.ref (A.getD 75 0)) = true := D_Store_otherwise.kp
  have F_Store_otherwise : Fun K "otherwise" "Store.otherwise" s_Store_otherwise (A.getD 75 0) fd_Store_otherwise := funK_of D_Store_otherwise
  have b_Store_otherwise := F_Store_otherwise.binds (ps := ["self"]) fun _ _ _ _ _ _ us hl => match us, hl with | [_], _ => rfl
  obtain ⟨fd_Store_choice, D_Store_choice⟩ := c.def_ 36 (d := ⟨76, "choice", "Store.choice", defArgs s_Store_choice, defBody s_Store_choice, defScope s_Store_choice, []⟩) rfl
  have k_Store_choice : PySem.W.keepIn K (.ref (A.getD 76 0)) = true := D_Store_choice.kp
  have F_Store_choice : Fun K "choice" "Store.choice" s_Store_choice (A.getD 76 0) fd_Store_choice := funK_of D_Store_choice
  have b_Store_choice := F_Store_choice.binds (ps := ["self"]) fun _ _ _ _ _ _ us hl => match us, hl with | [_], _ => rfl
  obtain ⟨fd_Store_value_for, D_Store_value_for⟩ := c.def_ 37 (d := ⟨77, "value_for", "Store.value_for", defArgs s_Store_value_for, defBody s_Store_value_for, defScope s_Store_value_for, []⟩) rfl
  have k_Store_value_for : PySem.W.keepIn K (.ref (A.getD 77 0)) = true := D_Store_value_for.kp
  have F_Store_value_for : Fun K "value_for" "Store.value_for" s_Store_value_for (A.getD 77 0) fd_Store_value_for := funK_of D_Store_value_for
  have b_Store_value_for := F_Store_value_for.binds (ps := ["self", "page", "name"]) fun _ _ _ _ _ _ us hl => match us, hl with | [_, _, _], _ => rfl
  obtain ⟨fd_Store_moved, D_Store_moved⟩ := c.def_ 38 (d := ⟨78, "moved", "Store.moved", defArgs s_Store_moved, defBody s_Store_moved, defScope s_Store_moved, []⟩) rfl
  have k_Store_moved : PySem.W.keepIn K (.ref (A.getD 78 0)) = true := D_Store_moved.kp
  have F_Store_moved : Fun K "moved" "Store.moved" s_Store_moved (A.getD 78 0) fd_Store_moved := funK_of D_Store_moved
  have b_Store_moved := F_Store_moved.binds (ps := ["self", "block"]) fun _ _ _ _ _ _ us hl => match us, hl with | [_, _], _ => rfl
  obtain ⟨fd_Store_wiped, D_Store_wiped⟩ := c.def_ 39 (d := ⟨79, "wiped", "Store.wiped", defArgs s_Store_wiped, defBody s_Store_wiped, defScope s_Store_wiped, []⟩) rfl
  have k_Store_wiped : PySem.W.keepIn K (.ref (A.getD 79 0)) = true := D_Store_wiped.kp
  have F_Store_wiped : Fun K "wiped" "Store.wiped" s_Store_wiped (A.getD 79 0) fd_Store_wiped := funK_of D_Store_wiped
  have b_Store_wiped := F_Store_wiped.binds (ps := ["self", "block"]) fun _ _ _ _ _ _ us hl => match us, hl with | [_, _], _ => rfl
  obtain ⟨fd_Store_make_room, D_Store_make_room⟩ := c.def_ 40 (d := ⟨80, "make_room", "Store.make_room", defArgs s_Store_make_room, defBody s_Store_make_room, defScope s_Store_make_room, []⟩) rfl
  have k_Store_make_room : PySem.W.keepIn K (.ref (A.getD 80 0)) = true := D_Store_make_room.kp
  have F_Store_make_room : Fun K "make_room" "Store.make_room" s_Store_make_room (A.getD 80 0) fd_Store_make_room := funK_of D_Store_make_room
  have b_Store_make_room := F_Store_make_room.binds (ps := ["self"]) fun _ _ _ _ _ _ us hl => match us, hl with | [_], _ => rfl
  obtain ⟨fd_Store_make_ready, D_Store_make_ready⟩ := c.def_ 41 (d := ⟨81, "make_ready", "Store.make_ready", defArgs s_Store_make_ready, defBody s_Store_make_ready, defScope s_Store_make_ready, []⟩) rfl
  have k_Store_make_ready : PySem.W.keepIn K (.ref (A.getD 81 0)) = true := D_Store_make_ready.kp
  have F_Store_make_ready : Fun K "make_ready" "Store.make_ready" s_Store_make_ready (A.getD 81 0) fd_Store_make_ready := funK_of D_Store_make_ready
  have b_Store_make_ready := F_Store_make_ready.binds (ps := ["self"]) fun _ _ _ _ _ _ us hl => match us, hl with | [_], _ => rfl
  obtain ⟨fd_endurance, D_endurance⟩ := c.def_ 42 (d := ⟨82, "endurance", "endurance", defArgs s_endurance, defBody s_endurance, defScope s_endurance, []⟩) rfl
  have k_endurance : PySem.W.keepIn K (.ref (A.getD 82 0)) = true := D_endurance.kp
  have F_endurance : Fun K "endurance" "endurance" s_endurance (A.getD 82 0) fd_endurance := funK_of D_endurance
  have b_endurance := F_endurance.binds (ps := ["blocks", "ills"]) fun _ _ _ _ _ _ us hl => match us, hl with | [_, _], _ => rfl
  obtain ⟨fd_Chip_init, D_Chip_init⟩ := c.def_ 43 (d := ⟨83, "__init__", "Chip.__init__", defArgs s_Chip_init, defBody s_Chip_init, defScope s_Chip_init, [.int (1000000), .non]⟩) rfl
  have k_Chip_init : PySem.W.keepIn K (.ref (A.getD 83 0)) = true := D_Chip_init.kp
  have F_Chip_init : FunD K "__init__" "Chip.__init__" (defArgs s_Chip_init) (defBody s_Chip_init) (defScope s_Chip_init) dfl_Chip_init [] (A.getD 83 0) fd_Chip_init := D_Chip_init
  obtain ⟨ds2_Chip_init, dv2_Chip_init, bd2_Chip_init⟩ := F_Chip_init.binds1 (ps := ["self", "blocks", "pages", "most", "ills"]) 3 0 (fun z => by cases z) (by rfl) fun T kV doc pm an cdv ct us its h1 h2 => match us, its, h1, h2 with | [_, _, _], [_, _], _, _ => ⟨_, rfl, rfl⟩
  obtain ⟨ds1_Chip_init, dv1_Chip_init, bd1_Chip_init⟩ := F_Chip_init.binds1 (ps := ["self", "blocks", "pages", "most", "ills"]) 4 1 (fun z => by cases z) (by rfl) fun T kV doc pm an cdv ct us its h1 h2 => match us, its, h1, h2 with | [_, _, _, _], [_, _], _, _ => ⟨_, rfl, rfl⟩
  obtain ⟨fd_Chip_need_page, D_Chip_need_page⟩ := c.def_ 44 (d := ⟨84, "need_page", "Chip.need_page", defArgs s_Chip_need_page, defBody s_Chip_need_page, defScope s_Chip_need_page, []⟩) rfl
  have k_Chip_need_page : PySem.W.keepIn K (.ref (A.getD 84 0)) = true := D_Chip_need_page.kp
  have F_Chip_need_page : Fun K "need_page" "Chip.need_page" s_Chip_need_page (A.getD 84 0) fd_Chip_need_page := funK_of D_Chip_need_page
  have b_Chip_need_page := F_Chip_need_page.binds (ps := ["self", "page"]) fun _ _ _ _ _ _ us hl => match us, hl with | [_, _], _ => rfl
  obtain ⟨fd_Chip_need_block, D_Chip_need_block⟩ := c.def_ 45 (d := ⟨85, "need_block", "Chip.need_block", defArgs s_Chip_need_block, defBody s_Chip_need_block, defScope s_Chip_need_block, []⟩) rfl
  have k_Chip_need_block : PySem.W.keepIn K (.ref (A.getD 85 0)) = true := D_Chip_need_block.kp
  have F_Chip_need_block : Fun K "need_block" "Chip.need_block" s_Chip_need_block (A.getD 85 0) fd_Chip_need_block := funK_of D_Chip_need_block
  have b_Chip_need_block := F_Chip_need_block.binds (ps := ["self", "block"]) fun _ _ _ _ _ _ us hl => match us, hl with | [_, _], _ => rfl
  obtain ⟨fd_Chip_need_power, D_Chip_need_power⟩ := c.def_ 46 (d := ⟨86, "need_power", "Chip.need_power", defArgs s_Chip_need_power, defBody s_Chip_need_power, defScope s_Chip_need_power, []⟩) rfl
  have k_Chip_need_power : PySem.W.keepIn K (.ref (A.getD 86 0)) = true := D_Chip_need_power.kp
  have F_Chip_need_power : Fun K "need_power" "Chip.need_power" s_Chip_need_power (A.getD 86 0) fd_Chip_need_power := funK_of D_Chip_need_power
  have b_Chip_need_power := F_Chip_need_power.binds (ps := ["self"]) fun _ _ _ _ _ _ us hl => match us, hl with | [_], _ => rfl
  obtain ⟨fd_Chip_need_good, D_Chip_need_good⟩ := c.def_ 47 (d := ⟨87, "need_good", "Chip.need_good", defArgs s_Chip_need_good, defBody s_Chip_need_good, defScope s_Chip_need_good, []⟩) rfl
  have k_Chip_need_good : PySem.W.keepIn K (.ref (A.getD 87 0)) = true := D_Chip_need_good.kp
  have F_Chip_need_good : Fun K "need_good" "Chip.need_good" s_Chip_need_good (A.getD 87 0) fd_Chip_need_good := funK_of D_Chip_need_good
  have b_Chip_need_good := F_Chip_need_good.binds (ps := ["self", "block"]) fun _ _ _ _ _ _ us hl => match us, hl with | [_, _], _ => rfl
  obtain ⟨fd_Chip_goes_well, D_Chip_goes_well⟩ := c.def_ 48 (d := ⟨88, "goes_well", "Chip.goes_well", defArgs s_Chip_goes_well, defBody s_Chip_goes_well, defScope s_Chip_goes_well, []⟩) rfl
  have k_Chip_goes_well : PySem.W.keepIn K (.ref (A.getD 88 0)) = true := D_Chip_goes_well.kp
  have F_Chip_goes_well : Fun K "goes_well" "Chip.goes_well" s_Chip_goes_well (A.getD 88 0) fd_Chip_goes_well := funK_of D_Chip_goes_well
  have b_Chip_goes_well := F_Chip_goes_well.binds (ps := ["self", "block", "worn"]) fun _ _ _ _ _ _ us hl => match us, hl with | [_, _, _], _ => rfl
  obtain ⟨fd_Chip_put, D_Chip_put⟩ := c.def_ 49 (d := ⟨89, "put", "Chip.put", defArgs s_Chip_put, defBody s_Chip_put, defScope s_Chip_put, []⟩) rfl
  have k_Chip_put : PySem.W.keepIn K (.ref (A.getD 89 0)) = true := D_Chip_put.kp
  have F_Chip_put : Fun K "put" "Chip.put" s_Chip_put (A.getD 89 0) fd_Chip_put := funK_of D_Chip_put
  have b_Chip_put := F_Chip_put.binds (ps := ["self", "page", "stuff"]) fun _ _ _ _ _ _ us hl => match us, hl with | [_, _, _], _ => rfl
  obtain ⟨fd_Chip_wipe, D_Chip_wipe⟩ := c.def_ 50 (d := ⟨90, "wipe", "Chip.wipe", defArgs s_Chip_wipe, defBody s_Chip_wipe, defScope s_Chip_wipe, []⟩) rfl
  have k_Chip_wipe : PySem.W.keepIn K (.ref (A.getD 90 0)) = true := D_Chip_wipe.kp
  have F_Chip_wipe : Fun K "wipe" "Chip.wipe" s_Chip_wipe (A.getD 90 0) fd_Chip_wipe := funK_of D_Chip_wipe
  have b_Chip_wipe := F_Chip_wipe.binds (ps := ["self", "block"]) fun _ _ _ _ _ _ us hl => match us, hl with | [_, _], _ => rfl
  obtain ⟨fd_Chip_read, D_Chip_read⟩ := c.def_ 51 (d := ⟨91, "read", "Chip.read", defArgs s_Chip_read, defBody s_Chip_read, defScope s_Chip_read, []⟩) rfl
  have k_Chip_read : PySem.W.keepIn K (.ref (A.getD 91 0)) = true := D_Chip_read.kp
  have F_Chip_read : Fun K "read" "Chip.read" s_Chip_read (A.getD 91 0) fd_Chip_read := funK_of D_Chip_read
  have b_Chip_read := F_Chip_read.binds (ps := ["self", "page"]) fun _ _ _ _ _ _ us hl => match us, hl with | [_, _], _ => rfl
  obtain ⟨fd_Chip_is_dark, D_Chip_is_dark⟩ := c.def_ 52 (d := ⟨92, "is_dark", "Chip.is_dark", defArgs s_Chip_is_dark, defBody s_Chip_is_dark, defScope s_Chip_is_dark, []⟩) rfl
  have k_Chip_is_dark : PySem.W.keepIn K (.ref (A.getD 92 0)) = true := D_Chip_is_dark.kp
  have F_Chip_is_dark : Fun K "is_dark" "Chip.is_dark" s_Chip_is_dark (A.getD 92 0) fd_Chip_is_dark := funK_of D_Chip_is_dark
  have b_Chip_is_dark := F_Chip_is_dark.binds (ps := ["self"]) fun _ _ _ _ _ _ us hl => match us, hl with | [_], _ => rfl
  obtain ⟨fd_Chip_cleared, D_Chip_cleared⟩ := c.def_ 53 (d := ⟨93, "cleared", "Chip.cleared", defArgs s_Chip_cleared, defBody s_Chip_cleared, defScope s_Chip_cleared, []⟩) rfl
  have k_Chip_cleared : PySem.W.keepIn K (.ref (A.getD 93 0)) = true := D_Chip_cleared.kp
  have F_Chip_cleared : Fun K "cleared" "Chip.cleared" s_Chip_cleared (A.getD 93 0) fd_Chip_cleared := funK_of D_Chip_cleared
  have b_Chip_cleared := F_Chip_cleared.binds (ps := ["self", "block"]) fun _ _ _ _ _ _ us hl => match us, hl with | [_, _], _ => rfl
  obtain ⟨fd_Chip_failed, D_Chip_failed⟩ := c.def_ 54 (d := ⟨94, "failed", "Chip.failed", defArgs s_Chip_failed, defBody s_Chip_failed, defScope s_Chip_failed, []⟩) rfl
  have k_Chip_failed : PySem.W.keepIn K (.ref (A.getD 94 0)) = true := D_Chip_failed.kp
  have F_Chip_failed : Fun K "failed" "Chip.failed" s_Chip_failed (A.getD 94 0) fd_Chip_failed := funK_of D_Chip_failed
  have b_Chip_failed := F_Chip_failed.binds (ps := ["self", "block"]) fun _ _ _ _ _ _ us hl => match us, hl with | [_, _], _ => rfl
  obtain ⟨fd_Chip_deeds, D_Chip_deeds⟩ := c.def_ 55 (d := ⟨95, "deeds", "Chip.deeds", defArgs s_Chip_deeds, defBody s_Chip_deeds, defScope s_Chip_deeds, []⟩) rfl
  have k_Chip_deeds : PySem.W.keepIn K (.ref (A.getD 95 0)) = true := D_Chip_deeds.kp
  have F_Chip_deeds : Fun K "deeds" "Chip.deeds" s_Chip_deeds (A.getD 95 0) fd_Chip_deeds := funK_of D_Chip_deeds
  have b_Chip_deeds := F_Chip_deeds.binds (ps := ["self"]) fun _ _ _ _ _ _ us hl => match us, hl with | [_], _ => rfl
  obtain ⟨fd_Rule_goes_ahead, D_Rule_goes_ahead⟩ := c.def_ 56 (d := ⟨96, "goes_ahead", "Rule.goes_ahead", defArgs s_Rule_goes_ahead, defBody s_Rule_goes_ahead, defScope s_Rule_goes_ahead, []⟩) rfl
  have k_Rule_goes_ahead : PySem.W.keepIn K (.ref (A.getD 96 0)) = true := D_Rule_goes_ahead.kp
  have F_Rule_goes_ahead : Fun K "goes_ahead" "Rule.goes_ahead" s_Rule_goes_ahead (A.getD 96 0) fd_Rule_goes_ahead := funK_of D_Rule_goes_ahead
  have b_Rule_goes_ahead := F_Rule_goes_ahead.binds (ps := ["self", "one", "other", "pages", "now"]) fun _ _ _ _ _ _ us hl => match us, hl with | [_, _, _, _, _], _ => rfl
  obtain ⟨fd_Rule_choose, D_Rule_choose⟩ := c.def_ 57 (d := ⟨97, "choose", "Rule.choose", defArgs s_Rule_choose, defBody s_Rule_choose, defScope s_Rule_choose, []⟩) rfl
  have k_Rule_choose : PySem.W.keepIn K (.ref (A.getD 97 0)) = true := D_Rule_choose.kp
  have F_Rule_choose : Fun K "choose" "Rule.choose" s_Rule_choose (A.getD 97 0) fd_Rule_choose := funK_of D_Rule_choose
  have b_Rule_choose := F_Rule_choose.binds (ps := ["self", "tallies", "pages", "now"]) fun _ _ _ _ _ _ us hl => match us, hl with | [_, _, _, _], _ => rfl
  obtain ⟨fd_Fewest_goes_ahead, D_Fewest_goes_ahead⟩ := c.def_ 58 (d := ⟨98, "goes_ahead", "Fewest.goes_ahead", defArgs s_Fewest_goes_ahead, defBody s_Fewest_goes_ahead, defScope s_Fewest_goes_ahead, []⟩) rfl
  have k_Fewest_goes_ahead : PySem.W.keepIn K (.ref (A.getD 98 0)) = true := D_Fewest_goes_ahead.kp
  have F_Fewest_goes_ahead : Fun K "goes_ahead" "Fewest.goes_ahead" s_Fewest_goes_ahead (A.getD 98 0) fd_Fewest_goes_ahead := funK_of D_Fewest_goes_ahead
  have b_Fewest_goes_ahead := F_Fewest_goes_ahead.binds (ps := ["self", "one", "other", "pages", "now"]) fun _ _ _ _ _ _ us hl => match us, hl with | [_, _, _, _, _], _ => rfl
  obtain ⟨fd_Eldest_goes_ahead, D_Eldest_goes_ahead⟩ := c.def_ 59 (d := ⟨99, "goes_ahead", "Eldest.goes_ahead", defArgs s_Eldest_goes_ahead, defBody s_Eldest_goes_ahead, defScope s_Eldest_goes_ahead, []⟩) rfl
  have k_Eldest_goes_ahead : PySem.W.keepIn K (.ref (A.getD 99 0)) = true := D_Eldest_goes_ahead.kp
  have F_Eldest_goes_ahead : Fun K "goes_ahead" "Eldest.goes_ahead" s_Eldest_goes_ahead (A.getD 99 0) fd_Eldest_goes_ahead := funK_of D_Eldest_goes_ahead
  have b_Eldest_goes_ahead := F_Eldest_goes_ahead.binds (ps := ["self", "one", "other", "pages", "now"]) fun _ _ _ _ _ _ us hl => match us, hl with | [_, _, _, _, _], _ => rfl
  obtain ⟨fd_Terms_init, D_Terms_init⟩ := c.def_ 60 (d := ⟨100, "__init__", "Terms.__init__", defArgs s_Terms_init, defBody s_Terms_init, defScope s_Terms_init, [.int (0), .int (1000000)]⟩) rfl
  have k_Terms_init : PySem.W.keepIn K (.ref (A.getD 100 0)) = true := D_Terms_init.kp
  have F_Terms_init : FunD K "__init__" "Terms.__init__" (defArgs s_Terms_init) (defBody s_Terms_init) (defScope s_Terms_init) dfl_Terms_init [] (A.getD 100 0) fd_Terms_init := D_Terms_init
  obtain ⟨ds1_Terms_init, dv1_Terms_init, bd1_Terms_init⟩ := F_Terms_init.binds1 (ps := ["self", "blocks", "pages", "sheets", "share", "ill", "spread"]) 6 1 (fun z => by cases z) (by rfl) fun T kV doc pm an cdv ct us its h1 h2 => match us, its, h1, h2 with | [_, _, _, _, _, _], [_, _], _, _ => ⟨_, rfl, rfl⟩
  obtain ⟨fd_Terms_closed, D_Terms_closed⟩ := c.def_ 61 (d := ⟨101, "closed", "Terms.closed", defArgs s_Terms_closed, defBody s_Terms_closed, defScope s_Terms_closed, []⟩) rfl
  have k_Terms_closed : PySem.W.keepIn K (.ref (A.getD 101 0)) = true := D_Terms_closed.kp
  have F_Terms_closed : Fun K "closed" "Terms.closed" s_Terms_closed (A.getD 101 0) fd_Terms_closed := funK_of D_Terms_closed
  have b_Terms_closed := F_Terms_closed.binds (ps := ["self"]) fun _ _ _ _ _ _ us hl => match us, hl with | [_], _ => rfl
  obtain ⟨fd__law_cell_at, D__law_cell_at⟩ := c.def_ 62 (d := ⟨102, "_law_cell_at", "_law_cell_at", defArgs s__law_cell_at, defBody s__law_cell_at, defScope s__law_cell_at, []⟩) rfl
  have k__law_cell_at : PySem.W.keepIn K (.ref (A.getD 102 0)) = true := D__law_cell_at.kp
  have F__law_cell_at : Fun K "_law_cell_at" "_law_cell_at" s__law_cell_at (A.getD 102 0) fd__law_cell_at := funK_of D__law_cell_at
  have b__law_cell_at := F__law_cell_at.binds (ps := ["_law_script", "_law_k"]) fun _ _ _ _ _ _ us hl => match us, hl with | [_, _], _ => rfl
  obtain ⟨fd__law_whole, D__law_whole⟩ := c.def_ 63 (d := ⟨103, "_law_whole", "_law_whole", defArgs s__law_whole, defBody s__law_whole, defScope s__law_whole, []⟩) rfl
  have k__law_whole : PySem.W.keepIn K (.ref (A.getD 103 0)) = true := D__law_whole.kp
  have F__law_whole : Fun K "_law_whole" "_law_whole" s__law_whole (A.getD 103 0) fd__law_whole := funK_of D__law_whole
  have b__law_whole := F__law_whole.binds (ps := ["_law_found"]) fun _ _ _ _ _ _ us hl => match us, hl with | [_], _ => rfl
  obtain ⟨fd__law_size, D__law_size⟩ := c.def_ 64 (d := ⟨104, "_law_size", "_law_size", defArgs s__law_size, defBody s__law_size, defScope s__law_size, []⟩) rfl
  have k__law_size : PySem.W.keepIn K (.ref (A.getD 104 0)) = true := D__law_size.kp
  have F__law_size : Fun K "_law_size" "_law_size" s__law_size (A.getD 104 0) fd__law_size := funK_of D__law_size
  have b__law_size := F__law_size.binds (ps := ["_law_script"]) fun _ _ _ _ _ _ us hl => match us, hl with | [_], _ => rfl
  obtain ⟨fd__law_tally, D__law_tally⟩ := c.def_ 65 (d := ⟨105, "_law_tally", "_law_tally", defArgs s__law_tally, defBody s__law_tally, defScope s__law_tally, []⟩) rfl
  have k__law_tally : PySem.W.keepIn K (.ref (A.getD 105 0)) = true := D__law_tally.kp
  have F__law_tally : Fun K "_law_tally" "_law_tally" s__law_tally (A.getD 105 0) fd__law_tally := funK_of D__law_tally
  have b__law_tally := F__law_tally.binds (ps := ["_law_block", "_law_pages", "_law_many"]) fun _ _ _ _ _ _ us hl => match us, hl with | [_, _, _], _ => rfl
  obtain ⟨fd__law_alike, D__law_alike⟩ := c.def_ 66 (d := ⟨106, "_law_alike", "_law_alike", defArgs s__law_alike, defBody s__law_alike, defScope s__law_alike, []⟩) rfl
  have k__law_alike : PySem.W.keepIn K (.ref (A.getD 106 0)) = true := D__law_alike.kp
  have F__law_alike : Fun K "_law_alike" "_law_alike" s__law_alike (A.getD 106 0) fd__law_alike := funK_of D__law_alike
  have b__law_alike := F__law_alike.binds (ps := ["_law_found", "_law_due"]) fun _ _ _ _ _ _ us hl => match us, hl with | [_, _], _ => rfl
  obtain ⟨fd__law_rows, D__law_rows⟩ := c.def_ 67 (d := ⟨107, "_law_rows", "_law_rows", defArgs s__law_rows, defBody s__law_rows, defScope s__law_rows, []⟩) rfl
  have k__law_rows : PySem.W.keepIn K (.ref (A.getD 107 0)) = true := D__law_rows.kp
  have F__law_rows : Fun K "_law_rows" "_law_rows" s__law_rows (A.getD 107 0) fd__law_rows := funK_of D__law_rows
  have b__law_rows := F__law_rows.binds (ps := ["_law_found", "_law_due"]) fun _ _ _ _ _ _ us hl => match us, hl with | [_, _], _ => rfl
  obtain ⟨fd__law_refused, D__law_refused⟩ := c.def_ 68 (d := ⟨108, "_law_refused", "_law_refused", defArgs s__law_refused, defBody s__law_refused, defScope s__law_refused, []⟩) rfl
  have k__law_refused : PySem.W.keepIn K (.ref (A.getD 108 0)) = true := D__law_refused.kp
  have F__law_refused : Fun K "_law_refused" "_law_refused" s__law_refused (A.getD 108 0) fd__law_refused := funK_of D__law_refused
  have b__law_refused := F__law_refused.binds (ps := ["_law_store"]) fun _ _ _ _ _ _ us hl => match us, hl with | [_], _ => rfl
  obtain ⟨fd_law, D_law⟩ := c.def_ 69 (d := ⟨109, "law", "law", defArgs s_law, defBody s_law, defScope s_law, []⟩) rfl
  have k_law : PySem.W.keepIn K (.ref (A.getD 109 0)) = true := D_law.kp
  have F_law : Fun K "law" "law" s_law (A.getD 109 0) fd_law := funK_of D_law
  have b_law := F_law.binds (ps := ["_law_script"]) fun _ _ _ _ _ _ us hl => match us, hl with | [_], _ => rfl
  have xo_BlockFailed : OexC K (A.getD 14 0) := ⟨oexB_ok xl_BlockFailed, xs_BlockFailed, xr_BlockFailed, xy_BlockFailed, xk_BlockFailed⟩
  have xo_NotClear : OexC K (A.getD 15 0) := ⟨oexB_ok xl_NotClear, xs_NotClear, xr_NotClear, xy_NotClear, xk_NotClear⟩
  let T : Txt K mg := {
    a_BlockFailed_init := (A.getD 40 0)
    fd_BlockFailed_init := fd_BlockFailed_init
    F_BlockFailed_init := F_BlockFailed_init
    bd_BlockFailed_init := b_BlockFailed_init
    k_BlockFailed_init := k_BlockFailed_init
    a_NotClear_init := (A.getD 41 0)
    fd_NotClear_init := fd_NotClear_init
    F_NotClear_init := F_NotClear_init
    bd_NotClear_init := b_NotClear_init
    k_NotClear_init := k_NotClear_init
    a_mark_of := (A.getD 42 0)
    fd_mark_of := fd_mark_of
    F_mark_of := F_mark_of
    bd_mark_of := b_mark_of
    k_mark_of := k_mark_of
    g_mark_of := PySem.W.mg_of X G a_mark_of
    a_bits_of := (A.getD 43 0)
    fd_bits_of := fd_bits_of
    F_bits_of := F_bits_of
    bd_bits_of := b_bits_of
    k_bits_of := k_bits_of
    g_bits_of := PySem.W.mg_of X G a_bits_of
    a_Book_init := (A.getD 44 0)
    fd_Book_init := fd_Book_init
    F_Book_init := F_Book_init
    bd_Book_init := b_Book_init
    k_Book_init := k_Book_init
    a_Book_mark := (A.getD 45 0)
    fd_Book_mark := fd_Book_mark
    F_Book_mark := F_Book_mark
    bd_Book_mark := b_Book_mark
    k_Book_mark := k_Book_mark
    a_Book_note := (A.getD 46 0)
    fd_Book_note := fd_Book_note
    F_Book_note := F_Book_note
    bd_Book_note := b_Book_note
    k_Book_note := k_Book_note
    a_Book_forget := (A.getD 47 0)
    fd_Book_forget := fd_Book_forget
    F_Book_forget := F_Book_forget
    bd_Book_forget := b_Book_forget
    k_Book_forget := k_Book_forget
    a_Book_emptied := (A.getD 48 0)
    fd_Book_emptied := fd_Book_emptied
    F_Book_emptied := F_Book_emptied
    bd_Book_emptied := b_Book_emptied
    k_Book_emptied := k_Book_emptied
    a_Book_live_pages := (A.getD 49 0)
    fd_Book_live_pages := fd_Book_live_pages
    F_Book_live_pages := F_Book_live_pages
    bd_Book_live_pages := b_Book_live_pages
    k_Book_live_pages := k_Book_live_pages
    a_Book_held := (A.getD 50 0)
    fd_Book_held := fd_Book_held
    F_Book_held := F_Book_held
    bd_Book_held := b_Book_held
    k_Book_held := k_Book_held
    a_Book_tell := (A.getD 51 0)
    fd_Book_tell := fd_Book_tell
    F_Book_tell := F_Book_tell
    bd_Book_tell := b_Book_tell
    k_Book_tell := k_Book_tell
    a_is_whole := (A.getD 52 0)
    fd_is_whole := fd_is_whole
    F_is_whole := F_is_whole
    bd_is_whole := b_is_whole
    k_is_whole := k_is_whole
    g_is_whole := PySem.W.mg_of X G a_is_whole
    a_is_within := (A.getD 53 0)
    fd_is_within := fd_is_within
    F_is_within := F_is_within
    bd_is_within := b_is_within
    k_is_within := k_is_within
    g_is_within := PySem.W.mg_of X G a_is_within
    a_Plain_init := (A.getD 54 0)
    fd_Plain_init := fd_Plain_init
    F_Plain_init := F_Plain_init
    bd_Plain_init := b_Plain_init
    k_Plain_init := k_Plain_init
    a_Plain_good := (A.getD 55 0)
    fd_Plain_good := fd_Plain_good
    F_Plain_good := F_Plain_good
    bd_Plain_good := b_Plain_good
    k_Plain_good := k_Plain_good
    a_Plain_free := (A.getD 56 0)
    fd_Plain_free := fd_Plain_free
    F_Plain_free := F_Plain_free
    bd_Plain_free := b_Plain_free
    k_Plain_free := k_Plain_free
    a_Plain_part := (A.getD 57 0)
    fd_Plain_part := fd_Plain_part
    F_Plain_part := F_Plain_part
    bd_Plain_part := b_Plain_part
    k_Plain_part := k_Plain_part
    a_Plain_spot := (A.getD 58 0)
    fd_Plain_spot := fd_Plain_spot
    F_Plain_spot := F_Plain_spot
    bd_Plain_spot := b_Plain_spot
    k_Plain_spot := k_Plain_spot
    a_Plain_reserve := (A.getD 59 0)
    fd_Plain_reserve := fd_Plain_reserve
    F_Plain_reserve := F_Plain_reserve
    bd_Plain_reserve := b_Plain_reserve
    k_Plain_reserve := k_Plain_reserve
    a_Plain_ready := (A.getD 60 0)
    fd_Plain_ready := fd_Plain_ready
    F_Plain_ready := F_Plain_ready
    bd_Plain_ready := b_Plain_ready
    k_Plain_ready := k_Plain_ready
    a_Plain_make_ready := (A.getD 61 0)
    fd_Plain_make_ready := fd_Plain_make_ready
    F_Plain_make_ready := F_Plain_make_ready
    bd_Plain_make_ready := b_Plain_make_ready
    k_Plain_make_ready := k_Plain_make_ready
    a_Plain_set_down := (A.getD 62 0)
    fd_Plain_set_down := fd_Plain_set_down
    F_Plain_set_down := F_Plain_set_down
    bd_Plain_set_down := b_Plain_set_down
    k_Plain_set_down := k_Plain_set_down
    a_Plain_lay := (A.getD 63 0)
    fd_Plain_lay := fd_Plain_lay
    F_Plain_lay := F_Plain_lay
    bd_Plain_lay := b_Plain_lay
    k_Plain_lay := k_Plain_lay
    a_Plain_need_sheet := (A.getD 64 0)
    fd_Plain_need_sheet := fd_Plain_need_sheet
    F_Plain_need_sheet := F_Plain_need_sheet
    bd_Plain_need_sheet := b_Plain_need_sheet
    k_Plain_need_sheet := k_Plain_need_sheet
    a_Plain_write := (A.getD 65 0)
    fd_Plain_write := fd_Plain_write
    F_Plain_write := F_Plain_write
    bd_Plain_write := b_Plain_write
    k_Plain_write := k_Plain_write
    a_Plain_read := (A.getD 66 0)
    fd_Plain_read := fd_Plain_read
    F_Plain_read := F_Plain_read
    bd_Plain_read := b_Plain_read
    k_Plain_read := k_Plain_read
    a_Plain_held := (A.getD 67 0)
    fd_Plain_held := fd_Plain_held
    F_Plain_held := F_Plain_held
    bd_Plain_held := b_Plain_held
    k_Plain_held := k_Plain_held
    a_Store_init := (A.getD 68 0)
    fd_Store_init := fd_Store_init
    F_Store_init := F_Store_init
    bd_Store_init := b_Store_init
    k_Store_init := k_Store_init
    a_Store_take := (A.getD 69 0)
    fd_Store_take := fd_Store_take
    F_Store_take := F_Store_take
    bd_Store_take := b_Store_take
    k_Store_take := k_Store_take
    a_Store_reserve := (A.getD 70 0)
    fd_Store_reserve := fd_Store_reserve
    F_Store_reserve := F_Store_reserve
    bd_Store_reserve := b_Store_reserve
    k_Store_reserve := k_Store_reserve
    a_Store_space := (A.getD 71 0)
    fd_Store_space := fd_Store_space
    F_Store_space := F_Store_space
    bd_Store_space := b_Store_space
    k_Store_space := k_Store_space
    a_Store_tally := (A.getD 72 0)
    fd_Store_tally := fd_Store_tally
    F_Store_tally := F_Store_tally
    bd_Store_tally := b_Store_tally
    k_Store_tally := k_Store_tally
    a_Store_full_ones := (A.getD 73 0)
    fd_Store_full_ones := fd_Store_full_ones
    F_Store_full_ones := F_Store_full_ones
    bd_Store_full_ones := b_Store_full_ones
    k_Store_full_ones := k_Store_full_ones
    a_Store_options := (A.getD 74 0)
    fd_Store_options := fd_Store_options
    F_Store_options := F_Store_options
    bd_Store_options := b_Store_options
    k_Store_options := k_Store_options
    a_Store_otherwise := (A.getD 75 0)
    fd_Store_otherwise := fd_Store_otherwise
    F_Store_otherwise := F_Store_otherwise
    bd_Store_otherwise := b_Store_otherwise
    k_Store_otherwise := k_Store_otherwise
    a_Store_choice := (A.getD 76 0)
    fd_Store_choice := fd_Store_choice
    F_Store_choice := F_Store_choice
    bd_Store_choice := b_Store_choice
    k_Store_choice := k_Store_choice
    a_Store_value_for := (A.getD 77 0)
    fd_Store_value_for := fd_Store_value_for
    F_Store_value_for := F_Store_value_for
    bd_Store_value_for := b_Store_value_for
    k_Store_value_for := k_Store_value_for
    a_Store_moved := (A.getD 78 0)
    fd_Store_moved := fd_Store_moved
    F_Store_moved := F_Store_moved
    bd_Store_moved := b_Store_moved
    k_Store_moved := k_Store_moved
    a_Store_wiped := (A.getD 79 0)
    fd_Store_wiped := fd_Store_wiped
    F_Store_wiped := F_Store_wiped
    bd_Store_wiped := b_Store_wiped
    k_Store_wiped := k_Store_wiped
    a_Store_make_room := (A.getD 80 0)
    fd_Store_make_room := fd_Store_make_room
    F_Store_make_room := F_Store_make_room
    bd_Store_make_room := b_Store_make_room
    k_Store_make_room := k_Store_make_room
    a_Store_make_ready := (A.getD 81 0)
    fd_Store_make_ready := fd_Store_make_ready
    F_Store_make_ready := F_Store_make_ready
    bd_Store_make_ready := b_Store_make_ready
    k_Store_make_ready := k_Store_make_ready
    a_endurance := (A.getD 82 0)
    fd_endurance := fd_endurance
    F_endurance := F_endurance
    bd_endurance := b_endurance
    k_endurance := k_endurance
    g_endurance := PySem.W.mg_of X G a_endurance
    a_Chip_init := (A.getD 83 0)
    fd_Chip_init := fd_Chip_init
    F_Chip_init := F_Chip_init
    k_Chip_init := k_Chip_init
    ds2_Chip_init := ds2_Chip_init
    dv2_Chip_init := dv2_Chip_init
    bd2_Chip_init := bd2_Chip_init
    ds1_Chip_init := ds1_Chip_init
    dv1_Chip_init := dv1_Chip_init
    bd1_Chip_init := bd1_Chip_init
    a_Chip_need_page := (A.getD 84 0)
    fd_Chip_need_page := fd_Chip_need_page
    F_Chip_need_page := F_Chip_need_page
    bd_Chip_need_page := b_Chip_need_page
    k_Chip_need_page := k_Chip_need_page
    a_Chip_need_block := (A.getD 85 0)
    fd_Chip_need_block := fd_Chip_need_block
    F_Chip_need_block := F_Chip_need_block
    bd_Chip_need_block := b_Chip_need_block
    k_Chip_need_block := k_Chip_need_block
    a_Chip_need_power := (A.getD 86 0)
    fd_Chip_need_power := fd_Chip_need_power
    F_Chip_need_power := F_Chip_need_power
    bd_Chip_need_power := b_Chip_need_power
    k_Chip_need_power := k_Chip_need_power
    a_Chip_need_good := (A.getD 87 0)
    fd_Chip_need_good := fd_Chip_need_good
    F_Chip_need_good := F_Chip_need_good
    bd_Chip_need_good := b_Chip_need_good
    k_Chip_need_good := k_Chip_need_good
    a_Chip_goes_well := (A.getD 88 0)
    fd_Chip_goes_well := fd_Chip_goes_well
    F_Chip_goes_well := F_Chip_goes_well
    bd_Chip_goes_well := b_Chip_goes_well
    k_Chip_goes_well := k_Chip_goes_well
    a_Chip_put := (A.getD 89 0)
    fd_Chip_put := fd_Chip_put
    F_Chip_put := F_Chip_put
    bd_Chip_put := b_Chip_put
    k_Chip_put := k_Chip_put
    a_Chip_wipe := (A.getD 90 0)
    fd_Chip_wipe := fd_Chip_wipe
    F_Chip_wipe := F_Chip_wipe
    bd_Chip_wipe := b_Chip_wipe
    k_Chip_wipe := k_Chip_wipe
    a_Chip_read := (A.getD 91 0)
    fd_Chip_read := fd_Chip_read
    F_Chip_read := F_Chip_read
    bd_Chip_read := b_Chip_read
    k_Chip_read := k_Chip_read
    a_Chip_is_dark := (A.getD 92 0)
    fd_Chip_is_dark := fd_Chip_is_dark
    F_Chip_is_dark := F_Chip_is_dark
    bd_Chip_is_dark := b_Chip_is_dark
    k_Chip_is_dark := k_Chip_is_dark
    a_Chip_cleared := (A.getD 93 0)
    fd_Chip_cleared := fd_Chip_cleared
    F_Chip_cleared := F_Chip_cleared
    bd_Chip_cleared := b_Chip_cleared
    k_Chip_cleared := k_Chip_cleared
    a_Chip_failed := (A.getD 94 0)
    fd_Chip_failed := fd_Chip_failed
    F_Chip_failed := F_Chip_failed
    bd_Chip_failed := b_Chip_failed
    k_Chip_failed := k_Chip_failed
    a_Chip_deeds := (A.getD 95 0)
    fd_Chip_deeds := fd_Chip_deeds
    F_Chip_deeds := F_Chip_deeds
    bd_Chip_deeds := b_Chip_deeds
    k_Chip_deeds := k_Chip_deeds
    a_Rule_goes_ahead := (A.getD 96 0)
    fd_Rule_goes_ahead := fd_Rule_goes_ahead
    F_Rule_goes_ahead := F_Rule_goes_ahead
    bd_Rule_goes_ahead := b_Rule_goes_ahead
    k_Rule_goes_ahead := k_Rule_goes_ahead
    a_Rule_choose := (A.getD 97 0)
    fd_Rule_choose := fd_Rule_choose
    F_Rule_choose := F_Rule_choose
    bd_Rule_choose := b_Rule_choose
    k_Rule_choose := k_Rule_choose
    a_Fewest_goes_ahead := (A.getD 98 0)
    fd_Fewest_goes_ahead := fd_Fewest_goes_ahead
    F_Fewest_goes_ahead := F_Fewest_goes_ahead
    bd_Fewest_goes_ahead := b_Fewest_goes_ahead
    k_Fewest_goes_ahead := k_Fewest_goes_ahead
    a_Eldest_goes_ahead := (A.getD 99 0)
    fd_Eldest_goes_ahead := fd_Eldest_goes_ahead
    F_Eldest_goes_ahead := F_Eldest_goes_ahead
    bd_Eldest_goes_ahead := b_Eldest_goes_ahead
    k_Eldest_goes_ahead := k_Eldest_goes_ahead
    a_Terms_init := (A.getD 100 0)
    fd_Terms_init := fd_Terms_init
    F_Terms_init := F_Terms_init
    k_Terms_init := k_Terms_init
    ds1_Terms_init := ds1_Terms_init
    dv1_Terms_init := dv1_Terms_init
    bd1_Terms_init := bd1_Terms_init
    a_Terms_closed := (A.getD 101 0)
    fd_Terms_closed := fd_Terms_closed
    F_Terms_closed := F_Terms_closed
    bd_Terms_closed := b_Terms_closed
    k_Terms_closed := k_Terms_closed
    a__law_cell_at := (A.getD 102 0)
    fd__law_cell_at := fd__law_cell_at
    F__law_cell_at := F__law_cell_at
    bd__law_cell_at := b__law_cell_at
    k__law_cell_at := k__law_cell_at
    g__law_cell_at := PySem.W.mg_of X G a__law_cell_at
    a__law_whole := (A.getD 103 0)
    fd__law_whole := fd__law_whole
    F__law_whole := F__law_whole
    bd__law_whole := b__law_whole
    k__law_whole := k__law_whole
    g__law_whole := PySem.W.mg_of X G a__law_whole
    a__law_size := (A.getD 104 0)
    fd__law_size := fd__law_size
    F__law_size := F__law_size
    bd__law_size := b__law_size
    k__law_size := k__law_size
    g__law_size := PySem.W.mg_of X G a__law_size
    a__law_tally := (A.getD 105 0)
    fd__law_tally := fd__law_tally
    F__law_tally := F__law_tally
    bd__law_tally := b__law_tally
    k__law_tally := k__law_tally
    g__law_tally := PySem.W.mg_of X G a__law_tally
    a__law_alike := (A.getD 106 0)
    fd__law_alike := fd__law_alike
    F__law_alike := F__law_alike
    bd__law_alike := b__law_alike
    k__law_alike := k__law_alike
    g__law_alike := PySem.W.mg_of X G a__law_alike
    a__law_rows := (A.getD 107 0)
    fd__law_rows := fd__law_rows
    F__law_rows := F__law_rows
    bd__law_rows := b__law_rows
    k__law_rows := k__law_rows
    g__law_rows := PySem.W.mg_of X G a__law_rows
    a__law_refused := (A.getD 108 0)
    fd__law_refused := fd__law_refused
    F__law_refused := F__law_refused
    bd__law_refused := b__law_refused
    k__law_refused := k__law_refused
    g__law_refused := PySem.W.mg_of X G a__law_refused
    a_law := (A.getD 109 0)
    fd_law := fd_law
    F_law := F_law
    bd_law := b_law
    k_law := k_law
    C_Book := (A.getD 2 0)
    g_Book := PySem.W.mg_of X G aC_Book
    cl_Book := ⟨pg_Book, hd_Book, po_Book, sa_Book⟩
    na_Book_blocks := na_Book_blocks
    na_Book_pages := na_Book_pages
    na_Book_where := na_Book_where
    na_Book_names := na_Book_names
    na_Book_live := na_Book_live
    na_Book_filled := na_Book_filled
    na_Book_born := na_Book_born
    na_Book_stamp := na_Book_stamp
    mk_Book := ⟨mi_Book, at_Book_init, fn_Book_init, kc_Book⟩
    m_Book_mark := ⟨at_Book_mark, fn_Book_mark, k_Book_mark⟩
    m_Book_note := ⟨at_Book_note, fn_Book_note, k_Book_note⟩
    m_Book_forget := ⟨at_Book_forget, fn_Book_forget, k_Book_forget⟩
    m_Book_emptied := ⟨at_Book_emptied, fn_Book_emptied, k_Book_emptied⟩
    m_Book_live_pages := ⟨at_Book_live_pages, fn_Book_live_pages, k_Book_live_pages⟩
    m_Book_held := ⟨at_Book_held, fn_Book_held, k_Book_held⟩
    m_Book_tell := ⟨at_Book_tell, fn_Book_tell, k_Book_tell⟩
    C_Plain := (A.getD 3 0)
    g_Plain := PySem.W.mg_of X G aC_Plain
    cl_Plain := ⟨pg_Plain, hd_Plain, po_Plain, sa_Plain⟩
    na_Plain_chip := na_Plain_chip
    na_Plain_terms := na_Plain_terms
    na_Plain_book := na_Plain_book
    mk_Plain := ⟨mi_Plain, at_Plain_init, fn_Plain_init, kc_Plain⟩
    m_Plain_good := ⟨at_Plain_good, fn_Plain_good, k_Plain_good⟩
    m_Plain_free := ⟨at_Plain_free, fn_Plain_free, k_Plain_free⟩
    m_Plain_part := ⟨at_Plain_part, fn_Plain_part, k_Plain_part⟩
    m_Plain_spot := ⟨at_Plain_spot, fn_Plain_spot, k_Plain_spot⟩
    m_Plain_reserve := ⟨at_Plain_reserve, fn_Plain_reserve, k_Plain_reserve⟩
    m_Plain_ready := ⟨at_Plain_ready, fn_Plain_ready, k_Plain_ready⟩
    m_Plain_make_ready := ⟨at_Plain_make_ready, fn_Plain_make_ready, k_Plain_make_ready⟩
    m_Plain_set_down := ⟨at_Plain_set_down, fn_Plain_set_down, k_Plain_set_down⟩
    m_Plain_lay := ⟨at_Plain_lay, fn_Plain_lay, k_Plain_lay⟩
    m_Plain_need_sheet := ⟨at_Plain_need_sheet, fn_Plain_need_sheet, k_Plain_need_sheet⟩
    m_Plain_write := ⟨at_Plain_write, fn_Plain_write, k_Plain_write⟩
    m_Plain_read := ⟨at_Plain_read, fn_Plain_read, k_Plain_read⟩
    m_Plain_held := ⟨at_Plain_held, fn_Plain_held, k_Plain_held⟩
    C_Store := (A.getD 4 0)
    g_Store := PySem.W.mg_of X G aC_Store
    cl_Store := ⟨pg_Store, hd_Store, po_Store, sa_Store⟩
    na_Store_rule := na_Store_rule
    na_Store_papers := na_Store_papers
    na_Store_chip := na_Store_chip
    na_Store_terms := na_Store_terms
    na_Store_book := na_Store_book
    mk_Store := ⟨mi_Store, at_Store_init, fn_Store_init, kc_Store⟩
    m_Store_good := ⟨at_Store_good, fn_Plain_good, k_Plain_good⟩
    m_Store_free := ⟨at_Store_free, fn_Plain_free, k_Plain_free⟩
    m_Store_part := ⟨at_Store_part, fn_Plain_part, k_Plain_part⟩
    m_Store_spot := ⟨at_Store_spot, fn_Plain_spot, k_Plain_spot⟩
    m_Store_reserve := ⟨at_Store_reserve, fn_Store_reserve, k_Store_reserve⟩
    m_Store_ready := ⟨at_Store_ready, fn_Plain_ready, k_Plain_ready⟩
    m_Store_make_ready := ⟨at_Store_make_ready, fn_Store_make_ready, k_Store_make_ready⟩
    m_Store_set_down := ⟨at_Store_set_down, fn_Plain_set_down, k_Plain_set_down⟩
    m_Store_lay := ⟨at_Store_lay, fn_Plain_lay, k_Plain_lay⟩
    m_Store_need_sheet := ⟨at_Store_need_sheet, fn_Plain_need_sheet, k_Plain_need_sheet⟩
    m_Store_write := ⟨at_Store_write, fn_Plain_write, k_Plain_write⟩
    m_Store_read := ⟨at_Store_read, fn_Plain_read, k_Plain_read⟩
    m_Store_held := ⟨at_Store_held, fn_Plain_held, k_Plain_held⟩
    m_Store_take := ⟨at_Store_take, fn_Store_take, k_Store_take⟩
    m_Store_space := ⟨at_Store_space, fn_Store_space, k_Store_space⟩
    m_Store_tally := ⟨at_Store_tally, fn_Store_tally, k_Store_tally⟩
    m_Store_full_ones := ⟨at_Store_full_ones, fn_Store_full_ones, k_Store_full_ones⟩
    m_Store_options := ⟨at_Store_options, fn_Store_options, k_Store_options⟩
    m_Store_otherwise := ⟨at_Store_otherwise, fn_Store_otherwise, k_Store_otherwise⟩
    m_Store_choice := ⟨at_Store_choice, fn_Store_choice, k_Store_choice⟩
    m_Store_value_for := ⟨at_Store_value_for, fn_Store_value_for, k_Store_value_for⟩
    m_Store_moved := ⟨at_Store_moved, fn_Store_moved, k_Store_moved⟩
    m_Store_wiped := ⟨at_Store_wiped, fn_Store_wiped, k_Store_wiped⟩
    m_Store_make_room := ⟨at_Store_make_room, fn_Store_make_room, k_Store_make_room⟩
    C_Chip := (A.getD 5 0)
    g_Chip := PySem.W.mg_of X G aC_Chip
    cl_Chip := ⟨pg_Chip, hd_Chip, po_Chip, sa_Chip⟩
    na_Chip_blocks := na_Chip_blocks
    na_Chip_pages := na_Chip_pages
    na_Chip_most := na_Chip_most
    na_Chip_lasts := na_Chip_lasts
    na_Chip_stuff := na_Chip_stuff
    na_Chip_tried := na_Chip_tried
    na_Chip_clearings := na_Chip_clearings
    na_Chip_broken := na_Chip_broken
    na_Chip_left := na_Chip_left
    na_Chip_log := na_Chip_log
    mk_Chip := ⟨mi_Chip, at_Chip_init, fn_Chip_init, kc_Chip⟩
    m_Chip_need_page := ⟨at_Chip_need_page, fn_Chip_need_page, k_Chip_need_page⟩
    m_Chip_need_block := ⟨at_Chip_need_block, fn_Chip_need_block, k_Chip_need_block⟩
    m_Chip_need_power := ⟨at_Chip_need_power, fn_Chip_need_power, k_Chip_need_power⟩
    m_Chip_need_good := ⟨at_Chip_need_good, fn_Chip_need_good, k_Chip_need_good⟩
    m_Chip_goes_well := ⟨at_Chip_goes_well, fn_Chip_goes_well, k_Chip_goes_well⟩
    m_Chip_put := ⟨at_Chip_put, fn_Chip_put, k_Chip_put⟩
    m_Chip_wipe := ⟨at_Chip_wipe, fn_Chip_wipe, k_Chip_wipe⟩
    m_Chip_read := ⟨at_Chip_read, fn_Chip_read, k_Chip_read⟩
    m_Chip_is_dark := ⟨at_Chip_is_dark, fn_Chip_is_dark, k_Chip_is_dark⟩
    m_Chip_cleared := ⟨at_Chip_cleared, fn_Chip_cleared, k_Chip_cleared⟩
    m_Chip_failed := ⟨at_Chip_failed, fn_Chip_failed, k_Chip_failed⟩
    m_Chip_deeds := ⟨at_Chip_deeds, fn_Chip_deeds, k_Chip_deeds⟩
    C_Rule := (A.getD 6 0)
    g_Rule := PySem.W.mg_of X G aC_Rule
    cl_Rule := ⟨pg_Rule, hd_Rule, po_Rule, sa_Rule⟩
    mk0_Rule := ⟨mi_Rule, oi_Rule, kc_Rule⟩
    m_Rule_goes_ahead := ⟨at_Rule_goes_ahead, fn_Rule_goes_ahead, k_Rule_goes_ahead⟩
    m_Rule_choose := ⟨at_Rule_choose, fn_Rule_choose, k_Rule_choose⟩
    C_Fewest := (A.getD 7 0)
    g_Fewest := PySem.W.mg_of X G aC_Fewest
    cl_Fewest := ⟨pg_Fewest, hd_Fewest, po_Fewest, sa_Fewest⟩
    mk0_Fewest := ⟨mi_Fewest, oi_Fewest, kc_Fewest⟩
    m_Fewest_goes_ahead := ⟨at_Fewest_goes_ahead, fn_Fewest_goes_ahead, k_Fewest_goes_ahead⟩
    m_Fewest_choose := ⟨at_Fewest_choose, fn_Rule_choose, k_Rule_choose⟩
    C_Eldest := (A.getD 8 0)
    g_Eldest := PySem.W.mg_of X G aC_Eldest
    cl_Eldest := ⟨pg_Eldest, hd_Eldest, po_Eldest, sa_Eldest⟩
    mk0_Eldest := ⟨mi_Eldest, oi_Eldest, kc_Eldest⟩
    m_Eldest_goes_ahead := ⟨at_Eldest_goes_ahead, fn_Eldest_goes_ahead, k_Eldest_goes_ahead⟩
    m_Eldest_choose := ⟨at_Eldest_choose, fn_Rule_choose, k_Rule_choose⟩
    C_Terms := (A.getD 9 0)
    g_Terms := PySem.W.mg_of X G aC_Terms
    cl_Terms := ⟨pg_Terms, hd_Terms, po_Terms, sa_Terms⟩
    na_Terms_blocks := na_Terms_blocks
    na_Terms_pages := na_Terms_pages
    na_Terms_sheets := na_Terms_sheets
    na_Terms_share := na_Terms_share
    na_Terms_ill := na_Terms_ill
    na_Terms_spread := na_Terms_spread
    mk_Terms := ⟨mi_Terms, at_Terms_init, fn_Terms_init, kc_Terms⟩
    m_Terms_closed := ⟨at_Terms_closed, fn_Terms_closed, k_Terms_closed⟩
    C_WornError := (A.getD 10 0)
    g_WornError := PySem.W.mg_of X G aC_WornError
    xc_WornError := ⟨xq_WornError, xk_WornError, xr_WornError, xt_WornError⟩
    C_NoChip := (A.getD 11 0)
    g_NoChip := PySem.W.mg_of X G aC_NoChip
    xc_NoChip := ⟨xq_NoChip, xk_NoChip, xr_NoChip, xt_NoChip⟩
    C_NoPlace := (A.getD 12 0)
    g_NoPlace := PySem.W.mg_of X G aC_NoPlace
    xc_NoPlace := ⟨xq_NoPlace, xk_NoPlace, xr_NoPlace, xt_NoPlace⟩
    C_PowerGone := (A.getD 13 0)
    g_PowerGone := PySem.W.mg_of X G aC_PowerGone
    xc_PowerGone := ⟨xq_PowerGone, xk_PowerGone, xr_PowerGone, xt_PowerGone⟩
    C_BlockFailed := (A.getD 14 0)
    g_BlockFailed := PySem.W.mg_of X G aC_BlockFailed
    xi_BlockFailed := ⟨xo_BlockFailed, xi_BlockFailed, xt_BlockFailed, xfB_ok xf_BlockFailed⟩
    nx_BlockFailed_block := nx_BlockFailed_block
    C_NotClear := (A.getD 15 0)
    g_NotClear := PySem.W.mg_of X G aC_NotClear
    xi_NotClear := ⟨xo_NotClear, xi_NotClear, xt_NotClear, xfB_ok xf_NotClear⟩
    nx_NotClear_page := nx_NotClear_page
    C_NoTerms := (A.getD 16 0)
    g_NoTerms := PySem.W.mg_of X G aC_NoTerms
    xc_NoTerms := ⟨xq_NoTerms, xk_NoTerms, xr_NoTerms, xt_NoTerms⟩
    C_NoSheet := (A.getD 17 0)
    g_NoSheet := PySem.W.mg_of X G aC_NoSheet
    xc_NoSheet := ⟨xq_NoSheet, xk_NoSheet, xr_NoSheet, xt_NoSheet⟩
    C_NoValue := (A.getD 18 0)
    g_NoValue := PySem.W.mg_of X G aC_NoValue
    xc_NoValue := ⟨xq_NoValue, xk_NoValue, xr_NoValue, xt_NoValue⟩
    C_Full := (A.getD 19 0)
    g_Full := PySem.W.mg_of X G aC_Full
    xc_Full := ⟨xq_Full, xk_Full, xr_Full, xt_Full⟩
    C_NoRoom := (A.getD 20 0)
    g_NoRoom := PySem.W.mg_of X G aC_NoRoom
    xc_NoRoom := ⟨xq_NoRoom, xk_NoRoom, xr_NoRoom, xt_NoRoom⟩
    wi_WornError := ⟨wa_WornError, wr_WornError, fclB_ok wf_WornError⟩
    ci_Plain := ⟨wa_Plain, wr_Plain, fclB_ok wf_Plain⟩
    ic_Store := ⟨ia_Store, in_Store, it_Store, io_Store⟩
    kn_Store_Plain := kd_Store_Plain
    em_NoRoom_NoRoom := em_NoRoom_NoRoom
    em_NoRoom_WornError := em_NoRoom_WornError
    em_NoTerms_NoRoom := em_NoTerms_NoRoom
    em_NoTerms_WornError := em_NoTerms_WornError
    em_NoSheet_NoRoom := em_NoSheet_NoRoom
    em_NoSheet_WornError := em_NoSheet_WornError
    em_NoValue_NoRoom := em_NoValue_NoRoom
    em_NoValue_WornError := em_NoValue_WornError
    em_Full_NoRoom := em_Full_NoRoom
    em_Full_WornError := em_Full_WornError
    em_NoChip_NoRoom := em_NoChip_NoRoom
    em_NoChip_WornError := em_NoChip_WornError
    em_NoPlace_NoRoom := em_NoPlace_NoRoom
    em_NoPlace_WornError := em_NoPlace_WornError
    em_PowerGone_NoRoom := em_PowerGone_NoRoom
    em_PowerGone_WornError := em_PowerGone_WornError
    em_BlockFailed_NoRoom := em_BlockFailed_NoRoom
    em_BlockFailed_WornError := em_BlockFailed_WornError
    em_NotClear_NoRoom := em_NotClear_NoRoom
    em_NotClear_WornError := em_NotClear_WornError
    ec_NoRoom := ⟨eg_NoRoom, ek_NoRoom, es_NoRoom, ed_NoRoom, ea_NoRoom, en_NoRoom, et_NoRoom, eo_NoRoom⟩
    ki_NoRoom_ValueError := ki_NoRoom_ValueError
    kc_NoRoom_NoRoom := kd_NoRoom_NoRoom
    b_len := PySem.W.mg_none_of X G z_len
    b_isinstance := PySem.W.mg_none_of X G z_isinstance
    b_min := PySem.W.mg_none_of X G z_min
    b_max := PySem.W.mg_none_of X G z_max
    b_sorted := PySem.W.mg_none_of X G z_sorted
    b_int := PySem.W.mg_none_of X G z_int
    b_str := PySem.W.mg_none_of X G z_str
    b_list := PySem.W.mg_none_of X G z_list
    b_tuple := PySem.W.mg_none_of X G z_tuple
    b_bool := PySem.W.mg_none_of X G z_bool
    b_range := PySem.W.mg_none_of X G z_range
    b_zip := PySem.W.mg_none_of X G z_zip
    b_ValueError := PySem.W.mg_none_of X G z_ValueError
    u_ROLL := gvK K "ROLL"
    g_ROLL := PySem.W.mg_of X G v_ROLL
    r_ROLL := He.relB_ok vr_ROLL
    u_MANY := gvK K "MANY"
    g_MANY := PySem.W.mg_of X G v_MANY
    r_MANY := He.relB_ok vr_MANY
    u_MOST := gvK K "MOST"
    g_MOST := PySem.W.mg_of X G v_MOST
    r_MOST := He.relB_ok vr_MOST }
  have bl : ∀ (s : Shared) (v : Value), BindsTo s fd_law ⟨[v], []⟩ [("_law_script", v)] := fun s v => by
    have bb := D_law.bindsA (ps := ["_law_script"]) (fun _ _ _ _ _ _ us hl => match us, hl with | [_], _ => rfl) s [v] rfl
    exact bb
  exact ⟨T.fd_law, bl, fun base _ _ => ok_law T⟩
end My
theorem PySem.Challenge.cw_wornpages_k31_a_new_store_holds : PySem.Challenge.rw_wornpages_k31_a_new_store.Holds :=
  My.finE fun X G hfa c => My.txt_of X G hfa c
#print axioms PySem.Challenge.cw_wornpages_k31_a_new_store_holds
