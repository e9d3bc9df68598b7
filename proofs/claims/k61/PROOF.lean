import PyProof.Rows.All
import Wide.All
import OpenK.AllK
import Wide.FinOn
import HandS.ForMost
import HandS.ForExc
import HandS.Flow
import HandS.Wide
import HandS.WideBits
import HandS.IsInst
import HandS.ExcInit
import HandS.ExcField
import HandS.ExcIs
import HandS.TryMany
import HandS.SetKeys
import HandS.More
import HandS.Deep
import HandS.TupSets
import HandS.SortRule
import HandS.SortInts
import HandS.Walk
import HandS.RevTup
import HandS.Rev
import HandS.Conv
import HandS.WordsDict
import HandS.Style
import HandS.HeadHook2
import HandS.DictTup
import HandS.SortKw
import KE.DataMinMax
import HandS.HotCalls
import HandS.SuiteRaise
import HandS.SetFor
import HandS.Strs
import HandS.ExcValue
import HandS.Head0
import HandS.Head1
import HandS.Head2
import HandS.HeadEnd
import HandS.HeadHook1
import HandS.Lambda
import HandS.EndTab
import PySem.Challenge.RW_wornpages_k61_pages_laid_by_hand
set_option Elab.async false
set_option linter.all false
set_option maxRecDepth 100000
set_option maxHeartbeats 4000000
/-! Kit: unified operators, method calls by the receiver's class, and step lemmas for readings. -/
namespace Kit
open PySem PySem.Spec PyProof.Rows L2

section
variable {X : Cx}
/-! ### unified operators -/
abbrev rStrAdd : R2 := fun x y H Q => ∃ i j, x = .str i ∧ y = .str j ∧ i.length + j.length ≤ sizeLine ∧ Q (.str (i ++ j)) H
def uAdd (K : PySem.W.Frag) : R2 := fun x y H Q => rI0 (fun i j => .int (i + j)) x y H Q ∨ (rStrAdd x y H Q ∨ (rCat x y H Q ∨ rCatT K x y H Q))
theorem op_uAdd : OpR X (binaryOp .Add) (uAdd X.K) := op_add.or (op_add_str.or (op_cat.or op_catT))
def uMul : R2 := fun x y H Q => rI CMul (fun i j => .int (i * j)) x y H Q ∨ (rRep x y H Q ∨ rI CMulW (fun i j => .int (i * j)) x y H Q)
theorem op_uMul : OpR X (binaryOp .Mult) uMul := op_mul.or (op_rep.or op_mulW)
def uShl : R2 := rI CShl fun i j => .int (i * 2 ^ j.toNat)
theorem op_uShl : OpR X (binaryOp .LShift) uShl := op_shlW
def uEq (K : PySem.W.Frag) : R2 := fun x y H Q => rEq x y H Q ∨ rEqD K x y H Q
theorem op_uEq (hu : X.A.units + 64 < cLine) : OpR X (compareOp .Eq) (uEq X.K) := op_eq.or (op_eqD hu)
def uNe (K : PySem.W.Frag) : R2 := fun x y H Q => rNe x y H Q ∨ rNeD K x y H Q
theorem op_uNe (hu : X.A.units + 64 < cLine) : OpR X (compareOp .NotEq) (uNe X.K) := op_ne.or (op_neD hu)
abbrev rLtI : R2 := rI0 fun i j => .bl (decide (i < j))
def uLt : R2 := rLtI
theorem op_uLt : OpR X (compareOp .Lt) uLt := op_lt
def uIn (K : PySem.W.Frag) : R2 := rIn K false
theorem op_uIn : OpR X (compareOp .In) (uIn X.K) := op_in_seq
def uNotIn (K : PySem.W.Frag) : R2 := rIn K true
theorem op_uNotIn : OpR X (compareOp .NotIn) (uNotIn X.K) := op_notIn_seq
abbrev rIsNon : R2 := fun x y H Q => y = .non ∧ Q (.bl (decide (x = .non))) H
abbrev rIsNotNon : R2 := fun x y H Q => y = .non ∧ Q (.bl (!decide (x = .non))) H

def uIs : R2 := fun x y H Q => rIsNon x y H Q ∨ rIsB x y H Q
theorem op_uIs : OpR X (compareOp .Is) uIs := op_isN.or op_isBl
def uIsNot : R2 := fun x y H Q => rIsNotNon x y H Q ∨ rNotB x y H Q
theorem op_uIsNot : OpR X (compareOp .IsNot) uIsNot := op_notN.or op_notBl

/-! ### calls -/
theorem passL2 : ∀ σ, PassesAt (L2.CX X.prog X.w) X σ ((fun _ => E0) σ) := fun _ _ _ _ _ _ _ h => by
  obtain ⟨_, _, _, _, _, _, _, _, _, _, _, _, z⟩ := h
  exact z.elim
/-- a method of a class, by what it promises -/
structure MO (P : Program) (w : World) (K : PySem.W.Frag) (mg : Str → Option Value) (base : Heap) (CX : CXT) (n : Nat) (C : Addr) (m : Str) (sp : Sp) : Prop where
  ex : ∃ f fd ps, Cls K C ∧ Meth K C m f ∧ FnOk P w K mg base CX n f fd ps sp ∧ Binds K fd ps []
variable {CX : CXT} {k : Nat} {f C : Addr} {fd : FuncData} {ps : List Str} {sp : Sp} {dvs : List V} {ds : List Value} {E : L2.St → XK} {x m : Str} {p pos apos : Pos} {e o : Expr} {es : List Expr} {ta : TE} {t : TA}
/-- o.m(..), by the class that o has -/
def mtK (P : Program) (w : World) (K : PySem.W.Frag) (mg : Str → Option Value) (base : Heap) (CX : CXT) (n : Nat) (m : Str) (E : XK) (σ : L2.St) (t : TA) (Q : VK) : V → Hp → Prop := fun x H1 => ∃ a C dx fs sp, x = .ref a ∧ H1 a = some (.ins C dx fs) ∧ fs.lookup m = none ∧
  MO P w K mg base CX n C m sp ∧ t σ H1 fun vs H2 => sp (x :: vs) H2 Q E
def tMethD (P : Program) (w : World) (K : PySem.W.Frag) (mg : Str → Option Value) (base : Heap) (CX : CXT) (n : Nat) (m : Str) (E : L2.St → XK) (ta : TE) (t : TA) : TE := fun σ H Q => ta σ H (mtK P w K mg base CX n m (E σ) σ t Q)
theorem pe_methD {pl : Sem Bool} (he : PE X o ta) (hr : Room k X.A) (hx : ∀ σ, PassesAt CX X σ (E σ)) (ha : PA X (e :: es) t)
    (hst : starEach (e :: es) X.env = (false, eval e X.env) :: starEach es X.env := by rfl) (hpl : (backTo pos (starEach es X.env)).any (·.1) = false := by rfl)
    (ht : eval (.Call (.Attribute o m apos) (e :: es) [] pos) X.env = (do
      let ov ← eval o X.env
      standAt apos.atName
      let (f, first) ← holding [ov] (getMethod ov m pl)
      callWith pos f first (backTo pos (starEach (e :: es) X.env)) (backToKw pos (keywordEach [] X.env))) := by rfl) :
    PE X (.Call (.Attribute o m apos) (e :: es) [] pos) (tMethD X.prog X.w X.K X.mg X.base CX k m E ta t) := by
  refine ⟨fun pins s σ H Q I h => ?_⟩
  refine PySem.W.methodCall_KW (pl := pl) (thn (he.run pins s σ H _ I h) fun u s1 ⟨x, H1, I1, rx, a, C, dx, fs, sp, ex, ea, l, mo, q⟩ => ?_) ht
  subst ex
  obtain rfl : u = Value.ref a := rx
  obtain ⟨f, fd, ps, c, hm, F, hb⟩ := mo.ex
  refine getmeth_ok I1 ea c hm l ?_
  refine PySem.W.callWith_K (first := [.ref a]) (h₀ := X.base) I.ok.mod.kin hm.kp (thn (ha.run pos pins s1 σ H1 _ I1 q) fun us s2 ⟨vs, H2, I2, r, q2⟩ => ⟨I2.kIn, ?_⟩) hst hpl
  exact run_fnS (us := .ref a :: us) (vs := .ref a :: vs) F hr hb (hx σ) I2 (.cons rfl r) q2
theorem pe_methD0 {pl : Sem Bool} (he : PE X o ta) (hr : Room k X.A) (hx : ∀ σ, PassesAt CX X σ (E σ))
    (ht : eval (.Call (.Attribute o m apos) [] [] pos) X.env = (do
      let ov ← eval o X.env
      standAt apos.atName
      let (f, first) ← holding [ov] (getMethod ov m pl)
      callWith pos f first (backTo pos (starEach [] X.env)) (backToKw pos (keywordEach [] X.env))) := by rfl) :
    PE X (.Call (.Attribute o m apos) [] [] pos) (tMethD X.prog X.w X.K X.mg X.base CX k m E ta tNil) := by
  refine ⟨fun pins s σ H Q I h => ?_⟩
  refine PySem.W.methodCall_KW (pl := pl) (thn (he.run pins s σ H _ I h) fun u s1 ⟨x, H1, I1, rx, a, C, dx, fs, sp, ex, ea, l, mo, q⟩ => ?_) ht
  subst ex
  obtain rfl : u = Value.ref a := rx
  obtain ⟨f, fd, ps, c, hm, F, hb⟩ := mo.ex
  refine getmeth_ok I1 ea c hm l ?_
  exact PySem.W.callWith_K0 (first := [.ref a]) I1.kIn hm.kp (run_fnS (us := [.ref a]) (vs := [.ref a]) F hr hb (hx σ) I1 (.cons rfl .nil) q)
theorem pe_callS0 (F : FnOk X.prog X.w X.K X.mg X.base CX k f fd ps sp) (hr : Room k X.A) (hg : Gl X x) (hm : X.mg x = some (.ref f)) (hk : PySem.W.keepIn X.K (.ref f) = true) (hb : Binds X.K fd ps []) (hx : ∀ σ, PassesAt CX X σ (E σ))
    (hdb : (x == ("__debug__" : Str)) = false := by decide) : PE X (.Call (.Name x p) [] [] pos) (tCallS sp E tNil) := by
  refine ⟨fun pins s σ H Q I h => ?_⟩
  refine wpAny_Call_Name_kw (ld_glob I hg hm ?_ hdb)
  exact PySem.W.callWith_K0 I.kIn hk (run_fnS (us := []) F hr hb (hx σ) I .nil h)
/-- C(..), what is raised at the slots -/
def tMakeS (C : Addr) (sp : Sp) (dvs : List V) (E : L2.St → XK) (t : TA) : TE := fun σ H Q => t σ H fun vs H1 => ∀ x dx, H1 x = none → H1 dx = none → dx ≠ x →
  sp (.ref x :: (vs ++ dvs)) (upd (upd H1 dx (.own x)) x (.ins C dx [])) (fun v H2 => v = .non ∧ Q (.ref x) H2) (E σ)
end

section
variable {X : Cx} {CX : CXT} {k : Nat} {f C : Addr} {fd : FuncData} {ps : List Str} {sp : Sp} {dvs : List V} {ds : List Value} {E : L2.St → XK} {x : Str} {p pos : Pos} {e : Expr} {es : List Expr} {t : TA}
/-- a class without an own __init__ -/
structure Mk0 (K : PySem.W.Frag) (C : Addr) : Prop where
  makes : PySem.W.makesIn K C = true
  init : PySem.W.findIn K (.ref C) "__init__" = some (some (.builtin "object.__init__"))
  kp : PySem.W.keepIn K (.ref C) = true
theorem run_make0 {pins : List (Addr × Obj)} {σ : L2.St} {H : Hp} {s : Shared} {Q : VK} (M : Mk0 X.K C) (I : Inv X pins σ H s)
    (h : ∀ x dx, H x = none → H dx = none → dx ≠ x → Q (.ref x) (upd (upd H dx (.own x)) x (.ins C dx []))) : wpAny (model X.prog X.w) X.A (call (.ref C) []) (EP X pins σ Q) X.xe s := by
  have hq := h (s.heap.objs.size + 1) s.heap.objs.size (I.hok.fresh (Nat.le_succ _)) (I.hok.fresh (Nat.le_refl _)) (Nat.ne_of_lt (Nat.lt_succ_self _))
  have I2 := Inv.made (C := C) I
  have KX := I.kIn
  have Y := PySem.W.makes_of (M := model X.prog X.w) KX M.makes
  obtain ⟨hh, g, d, t, os⟩ := s
  refine wpAny_call (PySem.W.make_core Y (PySem.W.looks_findIn KX M.init) (fun self => PySem.W.Looks.of_pure (PySem.W.oi_bind self)) (.inr ⟨rfl, rfl⟩) ?_)
  have e1 : ((hh.push PySem.W.emptyDict).push (PySem.W.instObj C hh.objs.size)).get? (hh.objs.size + 1) = some (PySem.W.instObj C hh.objs.size) := by heap_get
  have t1 : PySem.W.Looks (model X.prog X.w) ((hh.push PySem.W.emptyDict).push (PySem.W.instObj C hh.objs.size)) (typeOf (.ref (hh.objs.size + 1))) (.ref C) := (PySem.W.Looks.ld e1).andThen .now
  have t2 : PySem.W.Looks (model X.prog X.w) ((hh.push PySem.W.emptyDict).push (PySem.W.instObj C hh.objs.size)) (isInstance (.ref (hh.objs.size + 1)) (.type "object")) true :=
    t1.andThen (Y.top.keeps fun b o e => Heap.get?_push_of_some _ (Heap.get?_push_of_some _ e))
  refine codeAny_call_builtin PySem.W.oi_plain PySem.W.entry_oi (@PySem.W.check_slot (model X.prog X.w) _ _ _ "object.__init__" "object" "__init__" (.ref (hh.objs.size + 1)) [] [] _ PySem.W.oi_kind PySem.W.oi_split t2 (PySem.W.oi_args (.ref (hh.objs.size + 1))) ?_)
  rw [PySem.W.oi_run]
  exact wpAny_pure (And.intro rfl ⟨V.ref (hh.objs.size + 1), _, I2, rfl, hq⟩)
def tMake0 (C : Addr) : TE := fun _ H Q => ∀ x dx, H x = none → H dx = none → dx ≠ x → Q (.ref x) (upd (upd H dx (.own x)) x (.ins C dx []))
theorem pe_mkN (M : Mk0 X.K C) (hg : Gl X x) (hm : X.mg x = some (.ref C)) (hdb : (x == ("__debug__" : Str)) = false := by decide) : PE X (.Call (.Name x p) [] [] pos) (tMake0 C) := by
  refine ⟨fun pins s σ H Q I h => ?_⟩
  refine wpAny_Call_Name_kw (ld_glob I hg hm ?_ hdb)
  exact PySem.W.callWith_K0 I.kIn M.kp (run_make0 M I h)
theorem run_makeS {pins : List (Addr × Obj)} {σ : L2.St} {H : Hp} {s : Shared} {Q : VK} {us : List Value} {vs : List V} (M : Mk X.K C f) (F : FnOk X.prog X.w X.K X.mg X.base CX k f fd ps sp) (hr : Room (k + 1) X.A) (hb : Binds X.K fd ps ds) (hd : Vals dvs ds)
    (hx : ∀ σ, PassesAt CX X σ (E σ)) (I : Inv X pins σ H s) (r : Vals vs us)
    (h : ∀ x dx, H x = none → H dx = none → dx ≠ x → sp (.ref x :: (vs ++ dvs)) (upd (upd H dx (.own x)) x (.ins C dx [])) (fun v H2 => v = .non ∧ Q (.ref x) H2) (E σ)) :
    wpAny (model X.prog X.w) X.A (call (.ref C) us) (EP X pins σ Q) X.xe s := by
  have hq := h (s.heap.objs.size + 1) s.heap.objs.size (I.hok.fresh (Nat.le_succ _)) (I.hok.fresh (Nat.le_refl _)) (Nat.ne_of_lt (Nat.lt_succ_self _))
  have I2 := Inv.made (C := C) I
  have r2 : Vals (V.ref (s.heap.objs.size + 1) :: (vs ++ dvs)) (Value.ref (s.heap.objs.size + 1) :: (us ++ ds)) := .cons rfl (r.append hd)
  have hl : (Value.ref (s.heap.objs.size + 1) :: us ++ ds).length = ps.length := by
    have e := r2.length
    rw [F.len _ _ _ _ hq] at e
    exact e.symm
  refine wpAny_call (make_map (f := f) I.kIn M.makes M.init (beq_iff_eq.mp M.fn) (codeAny_mono (F.run _ X.stack _ _ ⟨Value.ref (s.heap.objs.size + 1) :: us, []⟩ (Value.ref (s.heap.objs.size + 1) :: (us ++ ds)) _ _ (E σ) (hr.make C us [])
    (I2.env0.make C us []) (hb _ (Value.ref (s.heap.objs.size + 1) :: us) I2.kIn hl) r2 hq) fun r s' hq' => ?_))
  cases r with
  | error e => exact hx σ pins _ _ e s' I2 hq'
  | ok fl =>
    cases fl with
    | ret u =>
      obtain ⟨v, H', I3, rv, ev, q3⟩ := I2.after hq'
      subst ev
      exact ⟨rv, ⟨V.ref (s.heap.objs.size + 1), H', I3, rfl, q3⟩⟩
    | next => exact False.elim hq'
    | brk => exact False.elim hq'
    | cont => exact False.elim hq'
theorem pe_mkS (M : Mk X.K C f) (F : FnOk X.prog X.w X.K X.mg X.base CX k f fd ps sp) (hr : Room (k + 1) X.A) (hg : Gl X x) (hm : X.mg x = some (.ref C)) (hb : Binds X.K fd ps ds) (hd : Vals dvs ds) (hx : ∀ σ, PassesAt CX X σ (E σ))
    (ha : PA X (e :: es) t) (hdb : (x == ("__debug__" : Str)) = false := by decide) (he : starEach (e :: es) X.env = (false, eval e X.env) :: starEach es X.env := by rfl) (hpl : (backTo pos (starEach es X.env)).any (·.1) = false := by rfl) :
    PE X (.Call (.Name x p) (e :: es) [] pos) (tMakeS C sp dvs E t) := by
  refine ⟨fun pins s σ H Q I h => ?_⟩
  refine wpAny_Call_Name_kw (ld_glob I hg hm ?_ hdb)
  refine PySem.W.callWith_K (h₀ := X.base) I.ok.mod.kin M.kp (thn (ha.run pos pins s σ H _ I h) fun us s1 ⟨vs, H1, I1, r, q⟩ => ⟨I1.kIn, ?_⟩) he hpl
  exact run_makeS M F hr hb hd hx I1 r q
theorem pe_mkS0 (M : Mk X.K C f) (F : FnOk X.prog X.w X.K X.mg X.base CX k f fd ps sp) (hr : Room (k + 1) X.A) (hg : Gl X x) (hm : X.mg x = some (.ref C)) (hb : Binds X.K fd ps ds) (hd : Vals dvs ds) (hx : ∀ σ, PassesAt CX X σ (E σ))
    (hdb : (x == ("__debug__" : Str)) = false := by decide) : PE X (.Call (.Name x p) [] [] pos) (tMakeS C sp dvs E tNil) := by
  refine ⟨fun pins s σ H Q I h => ?_⟩
  refine wpAny_Call_Name_kw (ld_glob I hg hm ?_ hdb)
  exact PySem.W.callWith_K0 I.kIn M.kp (run_makeS (us := []) M F hr hb hd hx I .nil h)
end

/-! ### steps: statements -/
section
variable {σ : L2.St} {H H1 : Hp} {K : PySem.W.Frag} {D : Ends} {t u : TS} {te ta tb : TE} {c : TT} {i : Nat} {v x y : V} {Q : VK} {QB : Bool → Hp → Prop} {A B : Prop} {b : Bool}
theorem x_seq (h : t { D with nx := u D } σ H) : tSeq t u D σ H := h
theorem x_seqA {g : TG} (h : tAsg te g { D with nx := u D } σ H) : tSeq (tAsg te g) u D σ H := h
theorem x_seqD (h : tDrop te { D with nx := u D } σ H) : tSeq (tDrop te) u D σ H := h
theorem x_seqF {f : Str} (h : sFld K ta te f { D with nx := u D } σ H) : tSeq (sFld K ta te f) u D σ H := h
theorem x_seqFA {f : Str} {rd : V → V → Hp → VK → Prop} (h : sFldAug K ta te rd f { D with nx := u D } σ H) : tSeq (sFldAug K ta te rd f) u D σ H := h
theorem x_seqAug {ti : TIp} (h : tAug i te ti { D with nx := u D } σ H) : tSeq (tAug i te ti) u D σ H := h
theorem x_next (q : D.nx σ H) : tNext D σ H := q
theorem x_asg {g : TG} (h : te σ H fun x H1 => g x σ H1 D.nx) : tAsg te g D σ H := h
theorem x_gname {QS : L2.St → Hp → Prop} (q : QS (σ.set i (some v)) H) : gName i v σ H QS := q
theorem x_ret (h : te σ H D.rt) : tRet te D σ H := h
theorem x_retN (h : D.rt .non H) : tRetN D σ H := h
theorem x_drop (h : te σ H fun _ H1 => D.nx σ H1) : tDrop te D σ H := h
theorem x_if (h : c σ H fun b H1 => if b = true then t D σ H1 else u D σ H1) : tIfS c t u D σ H := h
theorem x_iteT (h : A) : if true = true then A else B := iteT h
theorem x_iteF (h : B) : if false = true then A else B := iteF h
theorem x_iteD {p : Prop} [Decidable p] (h1 : p → A) (h2 : ¬ p → B) : if decide p = true then A else B := by
  by_cases h : p
  · rw [decide_eq_true h]; exact iteT (h1 h)
  · rw [decide_eq_false h]; exact iteF (h2 h)
theorem x_iteN (h : if b = true then B else A) : if (!b) = true then A else B := by
  cases b with
  | true => exact h
  | false => exact h
theorem x_iteB (h1 : b = true → A) (h2 : b = false → B) : if b = true then A else B := by
  cases b with
  | true => exact iteT (h1 rfl)
  | false => exact iteF (h2 rfl)
/-- ways that join: J holds at the end of t on every way -/
theorem x_join (J : L2.St → Hp → Prop) (h1 : ∀ R : L2.St → Hp → Prop, (∀ σ' H', J σ' H' → R σ' H') → t { D with nx := R } σ H) (h2 : ∀ σ' H', J σ' H' → u D σ' H') : tSeq t u D σ H := h1 (u D) h2
/-! ### steps: expressions -/
theorem x_var (h : σ[i]? = some (some v)) (q : Q v H) : tVar i σ H Q := ⟨v, h, q⟩
theorem x_c (q : Q v H) : tC v σ H Q := q
theorem x_op {r : R2} (h : ta σ H fun x H1 => tb σ H1 fun y H2 => r x y H2 Q) : tOp r ta tb σ H Q := h
theorem x_un {r : V → Hp → VK → Prop} (h : ta σ H fun x H1 => r x H1 Q) : tUn r ta σ H Q := h
theorem x_cb {r : List V → Hp → VK → Prop} {t : TA} (h : t σ H fun vs H1 => r vs H1 Q) : tCB r t σ H Q := h
theorem x_nil {QA : List V → Hp → Prop} (q : QA [] H) : tNil σ H QA := q
theorem x_cons {QA : List V → Hp → Prop} {tr : TA} (h : ta σ H fun x H1 => tr σ H1 fun xs H2 => QA (x :: xs) H2) : tCons ta tr σ H QA := h
theorem x_callS {sp : Sp} {E : L2.St → XK} {t : TA} (h : t σ H fun vs H1 => sp vs H1 Q (E σ)) : tCallS sp E t σ H Q := h
theorem x_ifExp (h : c σ H fun c H1 => if c = true then ta σ H1 Q else tb σ H1 Q) : tIf c ta tb σ H Q := h
theorem x_test (h : te σ H fun x H' => ∃ k, x = .bl k ∧ QB k H') : tTest te σ H QB := h
theorem x_tB (h : te σ H fun x H' => ∃ k, x = .bl k ∧ QB k H') : tB te σ H QB := h
theorem x_and {t u : TT} (h : t σ H fun c H1 => if c = true then u σ H1 QB else QB false H1) : tAnd t u σ H QB := h
theorem x_or {t u : TT} (h : t σ H fun c H1 => if c = true then QB true H1 else u σ H1 QB) : tOr t u σ H QB := h
theorem x_not {t : TT} (h : t σ H fun c H1 => QB (!c) H1) : tNot t σ H QB := h
theorem x_andT (h : ta σ H fun x H1 => ∃ k, TruV K x H1 k ∧ if k = true then tb σ H1 Q else Q x H1) : tAndT K ta tb σ H Q := h
theorem x_orT (h : ta σ H fun x H1 => ∃ k, TruV K x H1 k ∧ if k = true then Q x H1 else tb σ H1 Q) : tOrT K ta tb σ H Q := h
theorem x_notT (h : ta σ H fun x H1 => ∃ k, TruV K x H1 k ∧ Q (.bl (!k)) H1) : tNotT K ta σ H Q := h
theorem x_truB (q : A) {P : Bool → Prop} (h : P b) : ∃ k, TruV K (.bl b) H k ∧ P k := ⟨b, rfl, h⟩
theorem x_truBl {P : Bool → Prop} (h : P b) : ∃ k, TruV K (.bl b) H k ∧ P k := ⟨b, rfl, h⟩
theorem x_isbl {P : Bool → Prop} (h : P b) : ∃ k, V.bl b = .bl k ∧ P k := ⟨b, rfl, h⟩
theorem x_chain {r r' : R2} {tc : TE} (h : ta σ H fun x H1 => tb σ H1 fun y H2 => r x y H2 fun z H3 => ∃ k, z = .bl k ∧ if k = true then tc σ H3 fun z' H4 => r' y z' H4 Q else Q (.bl false) H3) : tChain r r' ta tb tc σ H Q := h
/-! ### steps: operators on values -/
variable {m n : Int} {s1 s2 : Str}
theorem x_addI (q : Q (.int (m + n)) H) : uAdd K (.int m) (.int n) H Q := .inl ⟨m, n, rfl, rfl, q⟩
theorem x_addS (q : Q (.str (s1 ++ s2)) H) (h : s1.length + s2.length ≤ sizeLine) : uAdd K (.str s1) (.str s2) H Q := .inr (.inl ⟨s1, s2, rfl, rfl, h, q⟩)
theorem x_I0 {g : Int → Int → V} (q : Q (g m n) H) : rI0 g (.int m) (.int n) H Q := ⟨m, n, rfl, rfl, q⟩
theorem x_I {C : Int → Int → Prop} {g : Int → Int → V} (q : Q (g m n) H) (h : C m n) : rI C g (.int m) (.int n) H Q := ⟨m, n, rfl, rfl, h, q⟩
theorem x_pow {g : Int → Int → V} (q : Q (g m n) H) (h : CPow m n) : rI CPow g (.int m) (.int n) H Q := ⟨m, n, rfl, rfl, h, q⟩
theorem x_lt (q : Q (.bl (decide (m < n))) H) : uLt (.int m) (.int n) H Q := ⟨m, n, rfl, rfl, q⟩
theorem x_mulI (q : Q (.int (m * n)) H) (h : CMul m n) : uMul (.int m) (.int n) H Q := .inl ⟨m, n, rfl, rfl, h, q⟩
theorem x_mulU (q : Q (.int (m * n)) H) (h : m.natAbs < 2 ^ 250 ∧ n.natAbs < 2 ^ 250) : uMul (.int m) (.int n) H Q := .inr (.inr ⟨m, n, rfl, rfl, wide_mul h.1 h.2 (by decide) (by decide) (by decide), q⟩)
theorem same_upd {o : HO} {p : Addr} (h : H p = none) : Same H (upd H p o) := fun b u e => by rw [upd_ne (ne_of_none e h)]; exact e
theorem same_updS {H H' : Hp} {o : HO} {p : Addr} (s : Same H H') (h : H p = none) : Same H (upd H' p o) := fun b u e => by rw [upd_ne (ne_of_none e h)]; exact s _ _ e
theorem cutV_from {xs : List V} (k : Nat) : cutV xs (some (k : Int)) none = xs.drop k := by
  unfold cutV
  rw [HT.sIx_nat, HT.sIx_none]
  by_cases h : k ≤ xs.length
  · rw [Nat.min_eq_left h, List.take_of_length_le (by rw [List.length_drop]; exact Nat.le_refl _)]
  · rw [Nat.min_eq_right (by omega), List.drop_of_length_le (Nat.le_refl _), List.drop_of_length_le (by omega), List.take_nil]
theorem cutV_to {xs : List V} (k : Nat) : cutV xs none (some (k : Int)) = xs.take k := by
  unfold cutV
  rw [HT.sIx_nat, HT.sIx_none, List.drop_zero, Nat.sub_zero]
  by_cases h : k ≤ xs.length
  · rw [Nat.min_eq_left h]
  · rw [Nat.min_eq_right (by omega), List.take_of_length_le (Nat.le_refl _), List.take_of_length_le (by omega)]
/-- a new object: what is asked of it -/
abbrev New (H : Hp) (Q : VK) (o : HO) : Prop := ∀ p H1, H p = none → Same H H1 → H1 p = some o → Q (.ref p) H1
theorem New.mk {o : HO} (h : New H Q o) : ∀ p, H p = none → Q (.ref p) (upd H p o) := fun p hp => h p _ hp (same_upd hp) upd_same
def nwL (Q : VK) : List V → Hp → Prop := fun xs H1 => xs.length ≤ sizeLine ∧ ∀ p, H1 p = none → Q (.ref p) (upd H1 p (.lst xs))
def nwT (Q : VK) : List V → Hp → Prop := fun xs H1 => xs.length ≤ sizeLine ∧ ∀ p, H1 p = none → Q (.ref p) (upd H1 p (.tup xs))
theorem x_nwL {xs : List V} (h : New H Q (.lst xs)) (hl : xs.length ≤ sizeLine) : nwL Q xs H := ⟨hl, h.mk⟩
theorem x_nwT {xs : List V} (h : New H Q (.tup xs)) (hl : xs.length ≤ sizeLine) : nwT Q xs H := ⟨hl, h.mk⟩
theorem x_addL {l l' : Addr} {xs ys : List V} (h1 : H l = some (.lst xs)) (h2 : H l' = some (.lst ys)) (q : New H Q (.lst (xs ++ ys))) (hl : xs.length + ys.length ≤ sizeLine) : uAdd K (.ref l) (.ref l') H Q :=
  .inr (.inr (.inl ⟨l, l', xs, ys, rfl, rfl, h1, h2, hl, q.mk⟩))
theorem x_rep {l : Addr} {xs : List V} (h1 : H l = some (.lst xs)) (q : New H Q (.lst (List.replicate n.toNat xs).flatten)) (h2 : n < 2 ^ 63) (h0 : 0 ≤ n) (hl : xs.length * n.toNat ≤ sizeLine) : uMul (.ref l) (.int n) H Q :=
  .inr (.inl ⟨l, n, xs, rfl, rfl, h1, Int.le_trans (by decide) h0, h2, hl, q.mk⟩)
theorem flat_rep {v : V} : ∀ n : Nat, (List.replicate n [v]).flatten = List.replicate n v
  | 0 => rfl
  | n + 1 => by rw [List.replicate_succ, List.flatten_cons, flat_rep n]; rfl
/-- [v] * n -/
theorem x_rep1 {l : Addr} {v : V} (h1 : H l = some (.lst [v])) (q : New H Q (.lst (List.replicate n.toNat v))) (h : 0 ≤ n ∧ n ≤ 1000000) : uMul (.ref l) (.int n) H Q :=
  x_rep h1 (by rw [flat_rep]; exact q) (by omega) h.1 (by rw [List.length_singleton, Nat.one_mul]; exact Nat.le_trans (show n.toNat ≤ 1000000 by omega) (by decide))
theorem cdivW {i j : Int} (h : 0 < j) (h2 : j < 10 ^ 60) : CDivW i j := by
  refine wide_div (b := 200) h ?_ (by decide) (by decide)
  have : (2:Nat) ^ 200 = 1606938044258990275541962092341162602522202993782792835301376 := by decide
  omega
theorem x_shl (q : Q (.int (m * 2 ^ n.toNat)) H) (h : CShl m n) : uShl (.int m) (.int n) H Q := ⟨m, n, rfl, rfl, h, q⟩
theorem x_U {g : Int → V} (q : Q (g m) H) : rU g (.int m) H Q := ⟨m, rfl, q⟩
theorem x_eqI (q : Q (.bl (decide (m = n))) H) : uEq K (.int m) (.int n) H Q := .inl ⟨rfl, by rw [dec_int, ← Bool.beq_eq_decide_eq] at *; exact q⟩
theorem x_neI (q : Q (.bl (!decide (m = n))) H) : uNe K (.int m) (.int n) H Q := .inl ⟨rfl, by rw [dec_int, ← Bool.beq_eq_decide_eq] at *; exact q⟩
theorem x_eqB {b c : Bool} (q : Q (.bl (decide (b = c))) H) : uEq K (.bl b) (.bl c) H Q := .inl ⟨rfl, by rw [dec_bl, ← Bool.beq_eq_decide_eq] at *; exact q⟩
theorem x_neB {b c : Bool} (q : Q (.bl (!decide (b = c))) H) : uNe K (.bl b) (.bl c) H Q := .inl ⟨rfl, by rw [dec_bl, ← Bool.beq_eq_decide_eq] at *; exact q⟩
theorem x_eqS (q : Q (.bl (decide (s1 = s2))) H) : uEq K (.str s1) (.str s2) H Q := .inl ⟨rfl, by rw [dec_str] at *; rw [show decide (s1 = s2) = (s1 == s2) from by rw [Bool.beq_eq_decide_eq]] at q; exact q⟩
theorem x_tup {t : TA} (h : t σ H (nwT Q)) : tTup t σ H Q := h
theorem x_lst {t : TA} (h : t σ H (nwL Q)) : tLst t σ H Q := h
/-! ### steps: sequences -/
variable {p : Addr} {xs : List V} {ns : List Int}
theorem atI_getD {α : Type} {xs : List α} {i : Int} (d : α) (h0 : 0 ≤ i) (h1 : i < xs.length) : atI xs i = some (xs.getD i.toNat d) := by
  obtain ⟨j, rfl⟩ : ∃ j : Nat, i = (j : Int) := ⟨i.toNat, by omega⟩
  have hj : j < xs.length := by omega
  exact atI_nat (by simp [hj])
theorem x_ixI (h : SqL K H p (ns.map V.int)) (q : Q (.int (ns.getD n.toNat 0)) H) (h0 : 0 ≤ n) (h1 : n < ns.length) : rIx K (.ref p) (.int n) H Q :=
  .inl ⟨p, _, n, _, rfl, rfl, h, by
    rw [atI_getD (.int 0) h0 (by rw [List.length_map]; exact h1)]
    have hn : n.toNat < ns.length := by omega
    simp [hn], q⟩
theorem x_ixS (h : SqL K H p xs) (ha : atI xs n = some v) (q : Q v H) : rIx K (.ref p) (.int n) H Q := .inl ⟨p, _, n, _, rfl, rfl, h, ha, q⟩
theorem atI_0 {α : Type} {x : α} {xs : List α} : atI (x :: xs) 0 = some x := atI_nat (j := 0) (by simp)
theorem x_ixH (h : SqL K H p (v :: xs)) (q : Q v H) : rIx K (.ref p) (.int 0) H Q := .inl ⟨p, _, 0, _, rfl, rfl, h, atI_0, q⟩
theorem atI_any (n : Nat) (hn : 0 < n) (o : Int) (ho : o = 0 ∨ o = -1) : ∃ i, i < n ∧ ∀ {α : Type} (xs : List α), xs.length = n → atI xs o = xs[i]? := by
  rcases ho with rfl | rfl
  · exact ⟨0, hn, fun xs h => by
      cases xs with
      | nil => simp at h; omega
      | cons x xs => rw [atI_0]; rfl⟩
  · refine ⟨n - 1, by omega, fun xs h => ?_⟩
    unfold atI ixN
    rw [h, if_neg (by decide), if_pos (by omega)]
    show xs[((n : Int) + -1).toNat]? = _
    rw [show ((n : Int) + -1).toNat = n - 1 by omega]
theorem x_ixL (h : SqL K H p xs) (q : Q (xs.getD n.toNat .non) H) (h0 : 0 ≤ n) (h1 : n < xs.length) : rIx K (.ref p) (.int n) H Q :=
  .inl ⟨p, _, n, _, rfl, rfl, h, atI_getD _ h0 h1, q⟩
theorem x_ixT (h : SqT K H p xs) (ha : atI xs n = some v) (q : Q v H) : rIx K (.ref p) (.int n) H Q :=
  .inr (.inl ⟨p, _, n, _, rfl, rfl, h, ha, q⟩)
end

/-! ### data -/
section
variable {X : Cx} {σ : L2.St} {H H' : Hp} {K : PySem.W.Frag} {Q : VK} {x y : V}
theorem cl_all : ∀ ds : List PyData, PyData.canLayAll0 ds = true ↔ ∀ d ∈ ds, PyData.canLay0 d = true
  | [] => by simp [PyData.canLayAll0]
  | d :: ds => by rw [PyData.canLayAll0, Bool.and_eq_true, cl_all ds]; simp
theorem dp_all {k : Nat} : ∀ ds : List PyData, PyData.depthAll ds ≤ k ↔ ∀ d ∈ ds, PyData.depth d ≤ k
  | [] => by simp [PyData.depthAll]
  | d :: ds => by rw [PyData.depthAll, Nat.max_le, dp_all ds]; simp
/-- data of a depth that can be compared -/
def Sh (k : Nat) (d : PyData) : Prop := d.canLay0 = true ∧ d.depth ≤ k
theorem Sh.list {k : Nat} {ds : List PyData} (h : ∀ d ∈ ds, Sh k d) : Sh (k + 1) (.list ds) := ⟨by rw [PyData.canLay0]; exact (cl_all ds).mpr fun d m => (h d m).1, by rw [PyData.depth]; exact Nat.succ_le_succ ((dp_all ds).mpr fun d m => (h d m).2)⟩
theorem Sh.tup {k : Nat} {ds : List PyData} (h : ∀ d ∈ ds, Sh k d) : Sh (k + 1) (.tuple ds) := ⟨by rw [PyData.canLay0]; exact (cl_all ds).mpr fun d m => (h d m).1, by rw [PyData.depth]; exact Nat.succ_le_succ ((dp_all ds).mpr fun d m => (h d m).2)⟩
theorem Sh.int {k : Nat} {n : Int} : Sh k (.int n) := ⟨by simp [PyData.canLay0], by simp [PyData.depth]⟩
theorem Sh.non {k : Nat} : Sh k .none := ⟨by simp [PyData.canLay0], by simp [PyData.depth]⟩
theorem Sh.bl {k : Nat} {b : Bool} : Sh k (.bool b) := ⟨by simp [PyData.canLay0], by simp [PyData.depth]⟩
theorem Sh.str {k : Nat} {s : Str} (h : PyData.strOk s = true) : Sh k (.str s) := ⟨by rw [PyData.canLay0]; exact h, by simp [PyData.depth]⟩
theorem Sh.shaped {k : Nat} {d : PyData} (h : Sh k d) (hk : k ≤ 64) : SeqAt.shaped d = true := by
  unfold SeqAt.shaped
  rw [h.1, decide_eq_true (Nat.le_trans h.2 hk)]
  rfl
theorem Sh.refl {k : Nat} {d : PyData} (h : Sh k d) : PyData.eqv d d = true := SeqAt.eqv_refl d h.1
theorem x_eqD {d e : PyData} (h1 : Dp K H x d) (h2 : Dp K H y e) (s1 : Sh 9 d) (s2 : Sh 9 e) (q : Q (.bl (PyData.eqv d e)) H) : uEq K x y H Q := .inr ⟨d, e, h1, h2, s1.shaped (by decide), s2.shaped (by decide), q⟩
theorem x_neD {d e : PyData} (h1 : Dp K H x d) (h2 : Dp K H y e) (s1 : Sh 9 d) (s2 : Sh 9 e) (q : Q (.bl (!PyData.eqv d e)) H) : uNe K x y H Q := .inr ⟨d, e, h1, h2, s1.shaped (by decide), s2.shaped (by decide), q⟩
/-- the same data -/
theorem x_eqS2 {d : PyData} (h1 : Dp K H x d) (h2 : Dp K H y d) (s1 : Sh 9 d) (q : Q (.bl true) H) : uEq K x y H Q := x_eqD h1 h2 s1 s1 (by rw [s1.refl]; exact q)
theorem x_neS2 {d : PyData} (h1 : Dp K H x d) (h2 : Dp K H y d) (s1 : Sh 9 d) (q : Q (.bl false) H) : uNe K x y H Q := x_neD h1 h2 s1 s1 (by rw [s1.refl]; exact q)
theorem dpAll_of : ∀ {vs : List V} {ds : List PyData}, vs.length = ds.length → (∀ (i : Nat) v d, vs[i]? = some v → ds[i]? = some d → Dp K H v d) → DpAll K H vs ds
  | [], [], _, _ => .nil
  | v :: vs, d :: ds, hl, h => .cons (h 0 v d rfl rfl) (dpAll_of (by simpa using hl) fun i a b h1 h2 => h (i + 1) a b h1 h2)
theorem dpInts : ∀ {ns : List Int}, DpAll K H (ns.map V.int) (ns.map PyData.int)
  | [] => .nil
  | n :: ns => .cons (.int n) dpInts
end
/-! ### loops -/
section
variable {X : Cx} {σ : L2.St} {H : Hp} {K : PySem.W.Frag} {D : Ends} {g : TG} {tb : TS} {tl te : TE} {tt : TT} {ta : TA} {a : Addr} {xs : List V} {Q : VK} {vs : List Nat}
theorem sl_u : SlR X (rSlL X.K) := sl_list
theorem x_slice {to th : TO} {r : V → Option Int → Option Int → Hp → VK → Prop} (h : te σ H fun x H1 => to σ H1 fun l H2 => th σ H2 fun u H3 => r x l u H3 Q) : tSl r te to th σ H Q := h
theorem x_noPart {QO : Option Int → Hp → Prop} (q : QO none H) : tNoPart σ H QO := q
def ptK (QO : Option Int → Hp → Prop) : V → Hp → Prop := fun x H1 => ∃ i, x = .int i ∧ QO (some i) H1
theorem x_part {QO : Option Int → Hp → Prop} (h : te σ H (ptK QO)) : tPart te σ H QO := h
theorem x_ptK {QO : Option Int → Hp → Prop} {i : Int} (q : QO (some i) H) : ptK QO (.int i) H := ⟨i, rfl, q⟩
theorem x_slL {lo hi : Option Int} (h : SqL K H a xs) (q : New H Q (.lst (cutV xs lo hi))) : rSlL K (.ref a) lo hi H Q := ⟨a, xs, rfl, h, q.mk⟩
def loopK (J : It) (g : TG) (tb : TS) (D : Ends) (σ : L2.St) (H1 : Hp) : Prop := ∃ W : Nat → Nat → L2.St → Hp → Prop, (∃ m, W 0 m σ H1) ∧ ∀ i m σ H, W i m σ H →
  (J.stop i H ∧ D.nx σ H) ∨ (J.go i H ∧ ∃ N : L2.St → Hp → Prop, (∀ σ' H', N σ' H' → ∃ m', m' < m ∧ W (i + 1) m' σ' H') ∧ ∀ x H', J.yld i H x H' → g x σ H' fun σ2 H2 => tb { D with nx := N, ct := N, bk := D.nx } σ2 H2)
def frL (K : PySem.W.Frag) (g : TG) (tb : TS) (D : Ends) (σ : L2.St) : V → Hp → Prop := fun x H1 => ∃ a, x = .ref a ∧ (∃ xs, SqL K H1 a xs) ∧ loopK (Itl K a) g tb D σ H1
theorem x_forL (h : tl σ H (frL K g tb D σ)) : tFor (iList K tl) g tb D σ H := h
theorem x_frL (hq : SqL K H a xs) (Pv : Nat → L2.St → Hp → Prop) (h0 : Pv 0 σ H) (hl : ∀ i σ H, i ≤ xs.length → Pv i σ H → SqL K H a xs)
    (hs : ∀ i x σ H, xs[i]? = some x → Pv i σ H → g x σ H fun σ2 H2 => tb { D with nx := Pv (i + 1), ct := Pv (i + 1), bk := D.nx } σ2 H2) (hd : ∀ σ H, Pv xs.length σ H → D.nx σ H) : frL K g tb D σ (.ref a) H :=
  ⟨a, rfl, ⟨_, hq⟩, for_list Pv h0 hl hs hd⟩
def frT (K : PySem.W.Frag) (g : TG) (tb : TS) (D : Ends) (σ : L2.St) : V → Hp → Prop := fun x H1 => ∃ a, x = .ref a ∧ (∃ xs, SqT K H1 a xs) ∧ loopK (Itt K a) g tb D σ H1
theorem x_forT (h : tl σ H (frT K g tb D σ)) : tFor (iTup K tl) g tb D σ H := h
theorem x_frT (hq : SqT K H a xs) (Pv : Nat → L2.St → Hp → Prop) (h0 : Pv 0 σ H) (hl : ∀ i σ H, i ≤ xs.length → Pv i σ H → SqT K H a xs)
    (hs : ∀ i x σ H, xs[i]? = some x → Pv i σ H → g x σ H fun σ2 H2 => tb { D with nx := Pv (i + 1), ct := Pv (i + 1), bk := D.nx } σ2 H2) (hd : ∀ σ H, Pv xs.length σ H → D.nx σ H) : frT K g tb D σ (.ref a) H :=
  ⟨a, rfl, ⟨_, hq⟩, for_tup Pv h0 hl hs hd⟩
/-! a loop over a list or a tuple -/
def SqX (K : PySem.W.Frag) (H : Hp) (a : Addr) (xs : List V) : Prop := SqL K H a xs ∨ SqT K H a xs
def iSeq (K : PySem.W.Frag) (tl : TE) : TI := fun σ H R => tl σ H fun x H1 => ∃ a, x = .ref a ∧ (((∃ xs, SqL K H1 a xs) ∧ R (Itl K a) H1) ∨ ((∃ xs, SqT K H1 a xs) ∧ R (Itt K a) H1))
theorem pi_seq {X : Cx} {tg l : Expr} {tl : TE} (hl : PE X l tl) : PI X tg l (iSeq X.K tl) := by
  refine ⟨fun pins s σ H R I h => thn (hl.run pins s σ H _ I h) fun v s1 ⟨x, H1, I1, r1, a, e, q⟩ => ?_⟩
  subst e; cases r1
  have fp : ∀ b ∈ [s1.heap.objs.size], _ := fun b hb => (List.mem_singleton.mp hb) ▸ I1.fpOk (Nat.le_refl _) (I1.hok.fresh (Nat.le_refl _))
  rcases q with ⟨⟨xs, hq⟩, q⟩ | ⟨⟨xs, hq⟩, q⟩
  · obtain ⟨its, rv, p, hz⟩ := I1.list hq
    exact wpAny_pyIter_list p.isList ⟨s1.heap.objs.size, [s1.heap.objs.size], _, _, H1, rfl, I1.kept (t' := s1.toks) fun b o e => Heap.get?_push_of_some _ e, turn_list a _, ⟨_, Heap.get?_push_size _ rfl, rfl, rfl⟩, fp, q⟩
  · obtain ⟨its, rv, p, hz⟩ := I1.tuple hq
    exact wpAny_pyIter_tuple (show s1.heap.IsTuple a its.toArray from p) ⟨s1.heap.objs.size, [s1.heap.objs.size], _, _, H1, rfl, I1.kept (t' := s1.toks) fun b o e => Heap.get?_push_of_some _ e, turn_tuple a _, ⟨_, Heap.get?_push_size _ rfl, rfl, rfl⟩, fp, q⟩
def frS (K : PySem.W.Frag) (g : TG) (tb : TS) (D : Ends) (σ : L2.St) : V → Hp → Prop := fun x H1 => ∃ a, x = .ref a ∧ (((∃ xs, SqL K H1 a xs) ∧ loopK (Itl K a) g tb D σ H1) ∨ ((∃ xs, SqT K H1 a xs) ∧ loopK (Itt K a) g tb D σ H1))
theorem x_forS (h : tl σ H (frS K g tb D σ)) : tFor (iSeq K tl) g tb D σ H := h
/-- a list (k) or a tuple -/
def SqB (k : Bool) (K : PySem.W.Frag) (H : Hp) (a : Addr) (xs : List V) : Prop := if k = true then SqL K H a xs else SqT K H a xs
theorem sqB_of (h : H a = some (.lst xs) ∨ H a = some (.tup xs)) : ∃ k, ∀ H', Same H H' → SqB k K H' a xs := by
  rcases h with h | h
  · exact ⟨true, fun H' s => SqL.of (s _ _ h)⟩
  · exact ⟨false, fun H' s => SqT.of (s _ _ h)⟩
theorem x_frS {k : Bool} (hq : SqB k K H a xs) (Pv : Nat → L2.St → Hp → Prop) (h0 : Pv 0 σ H) (hl : ∀ i σ' H', i ≤ xs.length → Pv i σ' H' → SqB k K H' a xs)
    (hs : ∀ i x σ H, xs[i]? = some x → Pv i σ H → g x σ H fun σ2 H2 => tb { D with nx := Pv (i + 1), ct := Pv (i + 1), bk := D.nx } σ2 H2) (hd : ∀ σ H, Pv xs.length σ H → D.nx σ H) : frS K g tb D σ (.ref a) H := by
  cases k with
  | true => exact ⟨a, rfl, .inl ⟨⟨_, hq⟩, for_list Pv h0 hl hs hd⟩⟩
  | false => exact ⟨a, rfl, .inr ⟨⟨_, hq⟩, for_tup Pv h0 hl hs hd⟩⟩
def frR1 (g : TG) (tb : TS) (D : Ends) (σ : L2.St) : List V → Hp → Prop := fun vs H1 => ∃ j : Int, vs = [.int j] ∧ -(2 ^ 62) ≤ j ∧ j < 2 ^ 62 ∧ loopK (Itr 0 j.toNat) g tb D σ H1
theorem x_forR1 (h : ta σ H (frR1 g tb D σ)) : tFor (iRng1 ta) g tb D σ H := h
theorem x_frR1 {j : Int} (b : -(2 ^ 62) ≤ j ∧ j < 2 ^ 62) (Pv : Nat → L2.St → Hp → Prop) (h0 : Pv 0 σ H)
    (hs : ∀ i σ H, i < j.toNat → Pv i σ H → g (.int (0 + i)) σ H fun σ2 H2 => tb { D with nx := Pv (i + 1), ct := Pv (i + 1), bk := D.nx } σ2 H2) (hd : ∀ σ H, Pv j.toNat σ H → D.nx σ H) : frR1 g tb D σ [.int j] H :=
  ⟨j, rfl, b.1, b.2, for_range Pv h0 hs hd⟩
def frR2 (g : TG) (tb : TS) (D : Ends) (σ : L2.St) : List V → Hp → Prop := fun vs H1 => ∃ i j : Int, vs = [.int i, .int j] ∧ (-(2 ^ 62) ≤ i ∧ i < 2 ^ 62 ∧ -(2 ^ 62) ≤ j ∧ j < 2 ^ 62) ∧ loopK (Itr i (j - i).toNat) g tb D σ H1
theorem x_forR2 (h : ta σ H (frR2 g tb D σ)) : tFor (iRng2 ta) g tb D σ H := h
theorem x_frR2 {lo j : Int} (b : -(2 ^ 62) ≤ lo ∧ lo < 2 ^ 62 ∧ -(2 ^ 62) ≤ j ∧ j < 2 ^ 62) (Pv : Nat → L2.St → Hp → Prop) (h0 : Pv 0 σ H)
    (hs : ∀ i σ H, i < (j - lo).toNat → Pv i σ H → g (.int (lo + i)) σ H fun σ2 H2 => tb { D with nx := Pv (i + 1), ct := Pv (i + 1), bk := D.nx } σ2 H2) (hd : ∀ σ H, Pv (j - lo).toNat σ H → D.nx σ H) : frR2 g tb D σ [.int lo, .int j] H :=
  ⟨lo, j, rfl, b, for_range Pv h0 hs hd⟩
theorem x_gtup2 {i j : Nat} {QS : L2.St → Hp → Prop} {x y : V} (h : SqT K H a [x, y]) (q : QS ((σ.set i (some x)).set j (some y)) H) : gTup K 2 (gCons (gName i) (gCons (gName j) gNil)) (.ref a) σ H QS :=
  ⟨a, [x, y], rfl, h, rfl, x, [y], rfl, y, [], rfl, rfl, q⟩
theorem x_gtup3 {i j k : Nat} {QS : L2.St → Hp → Prop} {x y z : V} (h : SqT K H a [x, y, z]) (q : QS (((σ.set i (some x)).set j (some y)).set k (some z)) H) : gTup K 3 (gCons (gName i) (gCons (gName j) (gCons (gName k) gNil))) (.ref a) σ H QS :=
  ⟨a, [x, y, z], rfl, h, rfl, x, [y, z], rfl, y, [z], rfl, z, [], rfl, rfl, q⟩
theorem x_gtup4 {i j k l : Nat} {QS : L2.St → Hp → Prop} {x y z u : V} (h : SqT K H a [x, y, z, u]) (q : QS ((((σ.set i (some x)).set j (some y)).set k (some z)).set l (some u)) H) : gTup K 4 (gCons (gName i) (gCons (gName j) (gCons (gName k) (gCons (gName l) gNil)))) (.ref a) σ H QS :=
  ⟨a, [x, y, z, u], rfl, h, rfl, x, [y, z, u], rfl, y, [z, u], rfl, z, [u], rfl, u, [], rfl, rfl, q⟩
theorem x_glst2 {i j : Nat} {QS : L2.St → Hp → Prop} {x y : V} (h : SqL K H a [x, y]) (q : QS ((σ.set i (some x)).set j (some y)) H) : gLst K 2 (gCons (gName i) (gCons (gName j) gNil)) (.ref a) σ H QS :=
  ⟨a, [x, y], rfl, h, rfl, x, [y], rfl, y, [], rfl, rfl, q⟩
theorem x_glst4 {i j k l : Nat} {QS : L2.St → Hp → Prop} {x y z u : V} (h : SqL K H a [x, y, z, u]) (q : QS ((((σ.set i (some x)).set j (some y)).set k (some z)).set l (some u)) H) : gLst K 4 (gCons (gName i) (gCons (gName j) (gCons (gName k) (gCons (gName l) gNil)))) (.ref a) σ H QS :=
  ⟨a, [x, y, z, u], rfl, h, rfl, x, [y, z, u], rfl, y, [z, u], rfl, z, [u], rfl, u, [], rfl, rfl, q⟩
def frEn (K : PySem.W.Frag) (g : TG) (tb : TS) (D : Ends) (σ : L2.St) : List V → Hp → Prop := fun vs H1 => ∃ a xs, vs = [.ref a] ∧ SqL K H1 a xs ∧ loopK (Ite K a) g tb D σ H1
theorem x_forEn (h : ta σ H (frEn K g tb D σ)) : tFor (iEnum K ta) g tb D σ H := h
theorem x_frEn {n1 n2 : Nat} (hq : SqL K H a xs) (Pv : Nat → L2.St → Hp → Prop) (h0 : Pv 0 σ H) (hl : ∀ i σ H, i ≤ xs.length → Pv i σ H → SqL K H a xs)
    (hs : ∀ i x σ H H', xs[i]? = some x → Pv i σ H → Same H H' → tb { D with nx := Pv (i + 1), ct := Pv (i + 1), bk := D.nx } ((σ.set n1 (some (.int (i : Nat)))).set n2 (some x)) H') (hd : ∀ σ H, Pv xs.length σ H → D.nx σ H) :
    frEn K (gTup K 2 (gCons (gName n1) (gCons (gName n2) gNil))) tb D σ [.ref a] H := by
  refine ⟨a, xs, rfl, hq, fun i m σ H => m = xs.length - i ∧ i ≤ xs.length ∧ Pv i σ H, ⟨xs.length, rfl, Nat.zero_le _, h0⟩, ?_⟩
  rintro i m σ H ⟨rfl, hi, p⟩
  have q := hl i σ H hi p
  by_cases hlt : i < xs.length
  · refine .inr ⟨⟨xs, _, q, List.getElem?_eq_getElem hlt⟩, Pv (i + 1), fun σ' H' p' => ⟨xs.length - (i + 1), by omega, rfl, hlt, p'⟩, fun v H' y => ?_⟩
    obtain ⟨T, x, rfl, hT, rfl, f1⟩ := y
    exact x_gtup2 (SqT.of upd_same) (hs i x σ H _ (f1 xs q) p (same_upd hT))
  · have e : i = xs.length := by omega
    subst e
    exact .inl ⟨⟨xs, q, Nat.le_refl _⟩, hd σ H p⟩
def frZ (K : PySem.W.Frag) (g : TG) (tb : TS) (D : Ends) (σ : L2.St) : List V → Hp → Prop := fun vs H1 => ∃ a b xs ys, vs = [.ref a, .ref b] ∧ SqL K H1 a xs ∧ SqL K H1 b ys ∧ loopK (Itz K a b) g tb D σ H1
theorem x_forZ (h : ta σ H (frZ K g tb D σ)) : tFor (iZip K ta) g tb D σ H := h
theorem x_frZ {n1 n2 : Nat} {b : Addr} {ys : List V} (hq : SqL K H a xs) (hq2 : SqL K H b ys) (hxy : xs.length = ys.length) (Pv : Nat → L2.St → Hp → Prop) (h0 : Pv 0 σ H) (hl : ∀ i σ H, Pv i σ H → SqL K H a xs ∧ SqL K H b ys)
    (hs : ∀ i x y σ H H', xs[i]? = some x → ys[i]? = some y → Pv i σ H → Same H H' → tb { D with nx := Pv (i + 1), ct := Pv (i + 1), bk := D.nx } ((σ.set n1 (some x)).set n2 (some y)) H') (hd : ∀ σ H, Pv xs.length σ H → D.nx σ H) :
    frZ K (gTup K 2 (gCons (gName n1) (gCons (gName n2) gNil))) tb D σ [.ref a, .ref b] H := by
  refine ⟨a, b, xs, ys, rfl, hq, hq2, fun i m σ H => m = xs.length - i ∧ i ≤ xs.length ∧ Pv i σ H, ⟨xs.length, rfl, Nat.zero_le _, h0⟩, ?_⟩
  rintro i m σ H ⟨rfl, hi, p⟩
  obtain ⟨qx, qy⟩ := hl i σ H p
  by_cases hlt : i < xs.length
  · refine .inr ⟨⟨xs, ys, _, _, qx, qy, List.getElem?_eq_getElem hlt, List.getElem?_eq_getElem (by omega)⟩, Pv (i + 1), fun σ' H' p' => ⟨xs.length - (i + 1), by omega, rfl, hlt, p'⟩, fun v H' y => ?_⟩
    obtain ⟨T, x', y', rfl, hT, rfl, f1, f2⟩ := y
    exact x_gtup2 (SqT.of upd_same) (hs i x' y' σ H _ (f1 xs qx) (f2 ys qy) p (same_upd hT))
  · have e : i = xs.length := by omega
    subst e
    exact .inl ⟨⟨xs, ys, qx, qy, Or.inl (Nat.le_refl _)⟩, hd σ H p⟩
/-! comprehensions -/
/-- tuples stay -/
def TupS (H H' : Hp) : Prop := ∀ a xs, H a = some (.tup xs) → H' a = some (.tup xs)
theorem TupS.of {H H' : Hp} (h : Same H H') : TupS H H' := fun a xs e => h a _ e
theorem TupS.trans {H H1 H2 : Hp} (a : TupS H H1) (b : TupS H1 H2) : TupS H H2 := fun c o h => b c o (a c o h)
theorem TupS.upd {H : Hp} {p : Addr} {o o' : HO} (h : H p = some o) (ho : ∀ xs, o ≠ .tup xs) : TupS H (upd H p o') := fun a xs e => by
  rw [upd_ne (ne_of e h (fun z => ho xs z.symm))]; exact e
def lcK (J : It) (g : TG) (tt : TT) (te : TE) (vs : List Nat) (σ : L2.St) (Q : VK) (H1 : Hp) : Prop := ∀ D, H1 D = none → ∃ W : Nat → Nat → Hp → Prop, (∃ m, W 0 m (upd H1 D (.lst []))) ∧ ∀ i m H, W i m H →
  (J.stop i H ∧ Q (.ref D) H) ∨ (J.go i H ∧ ∃ Nx : Hp → Prop, (∀ H', Nx H' → ∃ m', m' < m ∧ W (i + 1) m' H') ∧ ∀ x H', J.yld i H x H' → g x (wipe σ vs) H' fun σ2 H2 => wipe σ2 vs = wipe σ vs ∧ tt σ2 H2 fun b H3 =>
    if b = true then te σ2 H3 fun y H4 => ∃ acc, H4 D = some (.lst acc) ∧ acc.length < sizeLine ∧ Nx (upd H4 D (.lst (acc ++ [y]))) else Nx H3)
def lcL (K : PySem.W.Frag) (g : TG) (tt : TT) (te : TE) (vs : List Nat) (σ : L2.St) (Q : VK) : V → Hp → Prop := fun x H1 => ∃ a, x = .ref a ∧ (∃ xs, SqL K H1 a xs) ∧ lcK (Itl K a) g tt te vs σ Q H1
theorem x_lcL (h : tl σ H (lcL K g tt te vs σ Q)) : tLc (iList K tl) g tt te vs σ H Q := h
/-- what a turn of a comprehension asks -/
def LcTurn (g : TG) (tt : TT) (te : TE) (vs : List Nat) (σ : L2.St) (A : Nat → List V → Hp → Prop) (i : Nat) (x : V) (acc : List V) (H' : Hp) : Prop :=
  ∀ (NY : VK) (NN : Hp → Prop), (∀ y H4, Same H' H4 → A (i + 1) (acc ++ [y]) H4 → NY y H4) → (∀ H3, Same H' H3 → A (i + 1) acc H3 → NN H3) →
    g x (wipe σ vs) H' fun σ2 H2 => wipe σ2 vs = wipe σ vs ∧ tt σ2 H2 fun b H3 => if b = true then te σ2 H3 NY else NN H3
theorem lc_gen {n : Nat} {J : It} (Y : Nat → V → Prop) (A : Nat → List V → Hp → Prop) (hA : ∀ i acc H H', TupS H H' → A i acc H → A i acc H') (hn : n < sizeLine) (h0 : A 0 [] H)
    (hJ : ∀ (Pv : Nat → Hp → Prop) (Dr : Addr), (∀ i H', Pv i H' → Same H H') → Pv 0 (upd H Dr (.lst [])) →
      (∀ i x H', Y i x → Pv i H' → g x (wipe σ vs) H' fun σ2 H2 => wipe σ2 vs = wipe σ vs ∧ tt σ2 H2 fun b H3 =>
        if b = true then te σ2 H3 fun y H4 => ∃ acc, H4 Dr = some (.lst acc) ∧ acc.length < sizeLine ∧ Pv (i + 1) (upd H4 Dr (.lst (acc ++ [y]))) else Pv (i + 1) H3) →
      (∀ H', Pv n H' → Q (.ref Dr) H') → ∃ W : Nat → Nat → Hp → Prop, (∃ m, W 0 m (upd H Dr (.lst []))) ∧ ∀ i m H, W i m H →
        (J.stop i H ∧ Q (.ref Dr) H) ∨ (J.go i H ∧ ∃ Nx : Hp → Prop, (∀ H', Nx H' → ∃ m', m' < m ∧ W (i + 1) m' H') ∧ ∀ x H', J.yld i H x H' → g x (wipe σ vs) H' fun σ2 H2 => wipe σ2 vs = wipe σ vs ∧ tt σ2 H2 fun b H3 =>
          if b = true then te σ2 H3 fun y H4 => ∃ acc, H4 Dr = some (.lst acc) ∧ acc.length < sizeLine ∧ Nx (upd H4 Dr (.lst (acc ++ [y]))) else Nx H3))
    (hs : ∀ i x acc H', Y i x → Same H H' → A i acc H' → LcTurn g tt te vs σ A i x acc H')
    (hY : ∀ i x, Y i x → i < n) (hd : ∀ p acc H', H p = none → Same H H' → H' p = some (.lst acc) → A n acc H' → Q (.ref p) H') : lcK J g tt te vs σ Q H := by
  intro Dr hD
  refine hJ (fun i H' => ∃ acc, H' Dr = some (.lst acc) ∧ acc.length ≤ i ∧ Same H H' ∧ A i acc H') Dr (fun i H' ⟨_, _, _, s, _⟩ => s) ⟨[], upd_same, Nat.le_refl _, same_upd hD, hA _ _ _ _ (TupS.of (same_upd hD)) h0⟩ ?_ ?_
  · rintro i x H' hy ⟨acc, h1, h2, h3, h4⟩
    have hi := hY i x hy
    refine hs i x acc H' hy h3 h4 _ _ (fun y H4 s4 a4 => ?_) (fun H3 s3 a3 => ⟨acc, s3 _ _ h1, Nat.le_succ_of_le h2, h3.trans s3, a3⟩)
    have e4 := s4 _ _ h1
    refine ⟨acc, e4, by omega, acc ++ [y], upd_same, by rw [List.length_append]; exact Nat.add_le_add h2 (Nat.le_refl _), fun b o e => ?_, hA _ _ _ _ (TupS.upd e4 (fun _ z => by cases z)) a4⟩
    rw [upd_ne (ne_of_none e hD)]
    exact s4 _ _ (h3 _ _ e)
  · rintro H' ⟨acc, h1, h2, h3, h4⟩
    exact hd Dr acc H' hD h3 h1 h4
theorem x_lcLK (hq : SqL K H a xs) (A : Nat → List V → Hp → Prop) (hA : ∀ i acc H H', TupS H H' → A i acc H → A i acc H') (hn : xs.length < sizeLine) (h0 : A 0 [] H)
    (hs : ∀ i x acc H', xs[i]? = some x → Same H H' → A i acc H' → LcTurn g tt te vs σ A i x acc H')
    (hd : ∀ p acc H', H p = none → Same H H' → H' p = some (.lst acc) → A xs.length acc H' → Q (.ref p) H') : lcL K g tt te vs σ Q (.ref a) H :=
  ⟨a, rfl, ⟨_, hq⟩, lc_gen (fun i x => xs[i]? = some x) A hA hn h0 (fun Pv Dr hP p0 ht hd => lc_list (K := K) (a := a) (xs := xs) Pv p0 (fun i H' _ p => (hP i H' p).seq hq) ht hd) hs (fun i x h => (List.getElem?_eq_some_iff.mp h).1) hd⟩
def lcR1 (g : TG) (tt : TT) (te : TE) (vs : List Nat) (σ : L2.St) (Q : VK) : List V → Hp → Prop := fun ws H1 => ∃ j : Int, ws = [.int j] ∧ -(2 ^ 62) ≤ j ∧ j < 2 ^ 62 ∧ lcK (Itr 0 j.toNat) g tt te vs σ Q H1
theorem x_lcR1 (h : ta σ H (lcR1 g tt te vs σ Q)) : tLc (iRng1 ta) g tt te vs σ H Q := h
theorem x_lcR1K {j : Int} (A : Nat → List V → Hp → Prop) (hA : ∀ i acc H H', TupS H H' → A i acc H → A i acc H') (hn : 0 ≤ j ∧ j < 1000000) (h0 : A 0 [] H)
    (hs : ∀ i acc H', i < j.toNat → Same H H' → A i acc H' → LcTurn g tt te vs σ A i (.int i) acc H')
    (hd : ∀ p acc H', H p = none → Same H H' → H' p = some (.lst acc) → A j.toNat acc H' → Q (.ref p) H') : lcR1 g tt te vs σ Q [.int j] H :=
  ⟨j, rfl, by omega, by omega, lc_gen (fun i x => i < j.toNat ∧ x = .int i) A hA (Nat.lt_of_lt_of_le (by omega : j.toNat < 1000000) (by decide)) h0
    (fun Pv Dr hP p0 ht hd => lc_range Pv p0 (fun i H' hi p => ht i _ H' ⟨hi, by rw [Int.zero_add]⟩ p) hd) (fun i x acc H' h s a => by rw [h.2]; exact hs i acc H' h.1 s a) (fun i x h => h.1) hd⟩
def lcR2 (g : TG) (tt : TT) (te : TE) (vs : List Nat) (σ : L2.St) (Q : VK) : List V → Hp → Prop := fun ws H1 => ∃ i j : Int, ws = [.int i, .int j] ∧ (-(2 ^ 62) ≤ i ∧ i < 2 ^ 62 ∧ -(2 ^ 62) ≤ j ∧ j < 2 ^ 62) ∧ lcK (Itr i (j - i).toNat) g tt te vs σ Q H1
theorem x_lcR2 (h : ta σ H (lcR2 g tt te vs σ Q)) : tLc (iRng2 ta) g tt te vs σ H Q := h
theorem x_lcR2K {lo j : Int} (A : Nat → List V → Hp → Prop) (hA : ∀ i acc H H', TupS H H' → A i acc H → A i acc H') (hn : -1000000 ≤ lo ∧ lo ≤ j ∧ j < 1000000) (h0 : A 0 [] H)
    (hs : ∀ i acc H', i < (j - lo).toNat → Same H H' → A i acc H' → LcTurn g tt te vs σ A i (.int (lo + i)) acc H')
    (hd : ∀ p acc H', H p = none → Same H H' → H' p = some (.lst acc) → A (j - lo).toNat acc H' → Q (.ref p) H') : lcR2 g tt te vs σ Q [.int lo, .int j] H :=
  ⟨lo, j, rfl, ⟨by omega, by omega, by omega, by omega⟩, lc_gen (fun i x => i < (j - lo).toNat ∧ x = .int (lo + i)) A hA (Nat.lt_of_lt_of_le (by omega : (j - lo).toNat < 2000001) (by decide)) h0
    (fun Pv Dr hP p0 ht hd => lc_range Pv p0 (fun i H' hi p => ht i _ H' ⟨hi, rfl⟩ p) hd) (fun i x acc H' h s a => by rw [h.2]; exact hs i acc H' h.1 s a) (fun i x h => h.1) hd⟩
theorem x_yes {QB : Bool → Hp → Prop} (q : QB true H) : tYes σ H QB := q
/-! methods of built-in types -/
def bmK (K : PySem.W.Frag) (T : String) (r : V → List V → Hp → VK → Prop) (t : TA) (σ : L2.St) (Q : VK) : V → Hp → Prop := fun x H1 => tyV K T x H1 ∧ t σ H1 fun xs H2 => r x xs H2 Q
theorem x_bm {T : String} {r : V → List V → Hp → VK → Prop} {t : TA} (h : te σ H (bmK K T r t σ Q)) : tBM K T r te t σ H Q := h
theorem x_bmL {r : V → List V → Hp → VK → Prop} {t : TA} (hq : SqL K H a xs) (h : t σ H fun ws H2 => r (.ref a) ws H2 Q) : bmK K "list" r t σ Q (.ref a) H := ⟨.inl ⟨rfl, _, hq⟩, h⟩
def bm0K (K : PySem.W.Frag) (T : String) (r : V → List V → Hp → VK → Prop) (Q : VK) : V → Hp → Prop := fun x H1 => tyV K T x H1 ∧ r x [] H1 Q
theorem x_bm0 {T : String} {r : V → List V → Hp → VK → Prop} (h : te σ H (bm0K K T r Q)) : tBM0 K T r te σ H Q := h
theorem x_bm0L {r : V → List V → Hp → VK → Prop} (hq : SqL K H a xs) (h : r (.ref a) [] H Q) : bm0K K "list" r Q (.ref a) H := ⟨.inl ⟨rfl, _, hq⟩, h⟩
theorem x_append {y : V} (h : H a = some (.lst xs)) (q : Q .non (upd H a (.lst (xs ++ [y])))) (hl : xs.length < sizeLine) : rAppend (.ref a) [y] H Q := ⟨a, xs, y, rfl, rfl, h, hl, q⟩
theorem x_clear (h : H a = some (.lst xs)) (q : Q .non (upd H a (.lst []))) : rClear (.ref a) [] H Q := ⟨a, xs, rfl, rfl, h, q⟩
/-! objects -/
theorem x_mk0 {C : Addr} (h : ∀ x dx H1, H x = none → H dx = none → dx ≠ x → Same H H1 → H1 x = some (.ins C dx []) → H1 dx = some (.own x) → Q (.ref x) H1) : tMake0 C σ H Q := fun x dx n nd ne =>
  h x dx _ n nd ne ((same_upd nd).trans (same_upd (by rw [upd_ne (Ne.symm ne)]; exact n))) upd_same (by rw [upd_ne ne, upd_same])
def mkK (C : Addr) (sp : Sp) (dvs : List V) (Q : VK) (E : XK) : List V → Hp → Prop := fun vs H1 => ∀ x dx, H1 x = none → H1 dx = none → dx ≠ x →
  sp (.ref x :: (vs ++ dvs)) (upd (upd H1 dx (.own x)) x (.ins C dx [])) (fun v H2 => v = .non ∧ Q (.ref x) H2) E
theorem x_mkS {C : Addr} {sp : Sp} {dvs : List V} {E : L2.St → XK} {t : TA} (h : t σ H (mkK C sp dvs Q (E σ))) : tMakeS C sp dvs E t σ H Q := h
theorem x_mkK {C : Addr} {sp : Sp} {dvs ws : List V} {E : XK} (h : ∀ x dx H1, H x = none → H dx = none → dx ≠ x → Same H H1 → H1 x = some (.ins C dx []) → H1 dx = some (.own x) → sp (.ref x :: (ws ++ dvs)) H1 (fun v H2 => v = .non ∧ Q (.ref x) H2) E) :
    mkK C sp dvs Q E ws H := fun x dx n nd ne => h x dx _ n nd ne ((same_upd nd).trans (same_upd (by rw [upd_ne (Ne.symm ne)]; exact n))) upd_same (by rw [upd_ne ne, upd_same])
theorem x_methD {P : Program} {w : World} {mg : Str → Option Value} {base : Heap} {CX : CXT} {n : Nat} {m : Str} {E : L2.St → XK} {t : TA} (h : te σ H (mtK P w K mg base CX n m (E σ) σ t Q)) : tMethD P w K mg base CX n m E te t σ H Q := h
theorem x_mtK {P : Program} {w : World} {mg : Str → Option Value} {base : Heap} {CX : CXT} {n : Nat} {m : Str} {E : XK} {t : TA} {C dx : Addr} {fs : List (Str × V)} {sp : Sp} (ho : H a = some (.ins C dx fs)) (hm : MO P w K mg base CX n C m sp) (hl : fs.lookup m = none)
    (h : t σ H fun vs H2 => sp (.ref a :: vs) H2 Q E) : mtK P w K mg base CX n m E σ t Q (.ref a) H := ⟨a, C, dx, fs, sp, rfl, ho, hl, hm, h⟩
def fldK (K : PySem.W.Frag) (f : Str) (Q : VK) : V → Hp → Prop := fun x H1 => ∃ a C dx fs v, x = .ref a ∧ H1 a = some (.ins C dx fs) ∧ Cls K C ∧ NoAttr K C f ∧ fs.lookup f = some v ∧ Q v H1
theorem x_fld {f : Str} (h : te σ H (fldK K f Q)) : tFld K te f σ H Q := h
theorem x_fldK {f : Str} {C dx : Addr} {fs : List (Str × V)} {v : V} (ho : H a = some (.ins C dx fs)) (hl : fs.lookup f = some v) (q : Q v H) (hc : Cls K C) (hn : NoAttr K C f) : fldK K f Q (.ref a) H := ⟨a, C, dx, fs, v, rfl, ho, hc, hn, hl, q⟩
def sfK (K : PySem.W.Frag) (f : Str) (y : V) (D : Ends) (σ : L2.St) : V → Hp → Prop := fun x H2 => ∃ a C dx fs, x = .ref a ∧ H2 a = some (.ins C dx fs) ∧ Cls K C ∧ NoAttr K C f ∧ fs.length < 1000 ∧ D.nx σ (upd H2 a (.ins C dx (putF f y fs)))
theorem x_sfld {f : Str} (h : te σ H fun y H1 => tl σ H1 (sfK K f y D σ)) : sFld K tl te f D σ H := h
theorem x_sfK {f : Str} {C dx : Addr} {fs fs' : List (Str × V)} {y : V} (ho : H a = some (.ins C dx fs)) (hf : putF f y fs = fs') (q : D.nx σ (upd H a (.ins C dx fs'))) (hc : Cls K C) (hn : NoAttr K C f) (hl : fs.length < 1000) : sfK K f y D σ (.ref a) H :=
  ⟨a, C, dx, fs, rfl, ho, hc, hn, hl, by rw [hf]; exact q⟩
end
theorem _root_.L2.FunD.okX {P : Program} {w : World} {K : PySem.W.Frag} {mg : Str → Option Value} {base : Heap} {x qual : Str} {st : Stmt} {f : Addr} {fd : FuncData} {dvs : List V} {kws : List (Str × V)} {N ps : List Str} {k : Nat} {sp : Sp}
    (F : FunD K x qual (defArgs st) (defBody st) (defScope st) dvs kws f fd) (S : FnScope N ps (defScope st)) (len : ∀ vs H Q E, sp vs H Q E → vs.length = ps.length)
    (hbody : ∀ (cdv : Value) (A : Around) (outer : List Env) (s : Shared) (H : Hp) (vs : List V) (Q : VK) (E : XK), Room k (A.deeper (envOfC qual (defScope st) s.heap.objs.size f cdv)) → sp vs H Q E →
      ∃ t, PSs (cxOf (L2.CX P w) P w K mg base N qual (defScope st) f cdv A outer s H E) (defBody st) t ∧ t { nx := fun _ H' => Q .non H', rt := Q } (start N vs) H) : FnOk P w K mg base (L2.CX P w) (k + 1) f fd ps sp := F.ok S len hbody
/-! ### fields added to, while, is, in -/
section
variable {σ : L2.St} {H : Hp} {K : PySem.W.Frag} {D : Ends} {ta tv te : TE} {tb : TS} {tc : TT} {a : Addr} {Q : VK} {x y : V} {f : Str} {rd : V → V → Hp → VK → Prop}
/-- all but what stands at S stays -/
def Off (S : List Addr) (H H' : Hp) : Prop := ∀ b o, b ∉ S → H b = some o → H' b = some o
theorem Off.refl {S : List Addr} : Off S H H := fun _ _ _ h => h
theorem Off.of {S : List Addr} {H' : Hp} (s : Same H H') : Off S H H' := fun b o _ h => s b o h
theorem Off.trans {S : List Addr} {H1 H2 : Hp} (h1 : Off S H H1) (h2 : Off S H1 H2) : Off S H H2 := fun b o n h => h2 b o n (h1 b o n h)
theorem Off.sub {S S' : List Addr} {H' : Hp} (h : Off S H H') (hs : ∀ b, b ∈ S → b ∈ S') : Off S' H H' := fun b o n e => h b o (fun m => n (hs b m)) e
theorem Off.same {S : List Addr} {H1 H2 : Hp} (s : Same H H1) (h : Off S H1 H2) (n : ∀ b, b ∈ S → H b = none) : Same H H2 := fun b o e => h b o (fun m => by rw [n b m] at e; cases e) (s b o e)
theorem same_none {H' : Hp} {b : Addr} (s : Same H H') (h : H' b = none) : H b = none := by
  cases e : H b with
  | none => rfl
  | some o => rw [s _ _ e] at h; cases h
theorem Off.same1 {H1 H2 : Hp} (s : Same H H1) (h : Off [a] H1 H2) (n : H a = none) : Same H H2 := h.same s fun b hb => by rw [List.mem_singleton] at hb; rw [hb]; exact n
theorem Off.at {S : List Addr} {H1 : Hp} {b : Addr} {o : HO} (h : Off S H H1) (e : H b = some o) (n : b ∉ S) : H1 b = some o := h b o n e
theorem Off.upd {S : List Addr} {o : HO} (h : a ∈ S) : Off S H (upd H a o) := fun b u n e => by
  rw [upd_ne (fun z => n (by rw [z]; exact h))]; exact e
theorem Off.lst {r : Addr} {H H' : Hp} {C dx : Addr} {fs : List (Str × V)} {a : Addr} {xs : List V} (s : Off [r] H H') (hr : H r = some (.ins C dx fs)) (h : H a = some (.lst xs)) : H' a = some (.lst xs) := s a _ (fun m => by
  rw [List.mem_singleton] at m; subst m; rw [hr] at h; cases h) h
theorem Off.tup {r : Addr} {H H' : Hp} {C dx : Addr} {fs : List (Str × V)} {a : Addr} {xs : List V} (s : Off [r] H H') (hr : H r = some (.ins C dx fs)) (h : H a = some (.tup xs)) : H' a = some (.tup xs) := s a _ (fun m => by
  rw [List.mem_singleton] at m; subst m; rw [hr] at h; cases h) h
theorem Off.ins {r : Addr} {H H' : Hp} {a : Addr} {o : HO} (s : Off [r] H H') (hne : a ≠ r) (h : H a = some o) : H' a = some o := s a _ (fun m => hne (List.mem_singleton.mp m)) h
theorem Off.tups {r : Addr} {H H' : Hp} {C dx : Addr} {fs : List (Str × V)} (s : Off [r] H H') (hr : H r = some (.ins C dx fs)) : TupS H H' := fun a xs h => s.tup hr h
def f3K (a C : Addr) (f : Str) (D : Ends) (σ : L2.St) : VK := fun z H3 => ∃ dx' fs', H3 a = some (.ins C dx' fs') ∧ fs'.length < 1000 ∧ D.nx σ (upd H3 a (.ins C dx' (putF f z fs')))
def faK (K : PySem.W.Frag) (tv : TE) (rd : V → V → Hp → VK → Prop) (f : Str) (D : Ends) (σ : L2.St) : V → Hp → Prop := fun x H1 => ∃ a C dx fs v, x = .ref a ∧ H1 a = some (.ins C dx fs) ∧ Cls K C ∧ NoAttr K C f ∧ fs.lookup f = some v ∧
  tv σ H1 fun y H2 => rd v y H2 (f3K a C f D σ)
theorem x_fldAug (h : ta σ H (faK K tv rd f D σ)) : sFldAug K ta tv rd f D σ H := h
theorem x_faK {C dx : Addr} {fs : List (Str × V)} {v : V} (ho : H a = some (.ins C dx fs)) (hl : fs.lookup f = some v) (q : tv σ H fun y H2 => rd v y H2 (f3K a C f D σ)) (hc : Cls K C) (hn : NoAttr K C f) : faK K tv rd f D σ (.ref a) H := ⟨a, C, dx, fs, v, rfl, ho, hc, hn, hl, q⟩
theorem x_f3K {C dx : Addr} {fs fs' : List (Str × V)} {z : V} (ho : H a = some (.ins C dx fs)) (hf : putF f z fs = fs') (q : D.nx σ (upd H a (.ins C dx fs'))) (hl : fs.length < 1000) : f3K a C f D σ z H := ⟨dx, fs, ho, hl, by rw [hf]; exact q⟩
theorem putF_new {f : Str} {y : V} : ∀ {fs : List (Str × V)}, fs.lookup f = none → putF f y fs = fs ++ [(f, y)]
  | [], _ => rfl
  | (g, x) :: r, h => by
    rw [List.lookup_cons] at h
    by_cases e : f = g
    · subst e; simp at h
    · rw [show (f == g) = false from beq_eq_false_iff_ne.mpr e] at h
      show (if g = f then _ else _) = _
      rw [if_neg (Ne.symm e), putF_new h]
      rfl
/-- self.f = y, f new -/
theorem x_sfN {C dx : Addr} {fs : List (Str × V)} (ho : H a = some (.ins C dx fs)) (hf : fs.lookup f = none) (q : ∀ H1, Off [a] H H1 → H1 a = some (.ins C dx (fs ++ [(f, y)])) → D.nx σ H1) (hc : Cls K C) (hn : NoAttr K C f) (hl : fs.length < 1000) : sfK K f y D σ (.ref a) H :=
  ⟨a, C, dx, fs, rfl, ho, hc, hn, hl, by rw [putF_new hf]; exact q _ (Off.upd (List.mem_singleton.mpr rfl)) upd_same⟩
/-- self.f = y, f there -/
theorem x_sfO {C dx : Addr} {fs fs' : List (Str × V)} (ho : H a = some (.ins C dx fs)) (hf : putF f y fs = fs') (q : ∀ H1, Off [a] H H1 → H1 a = some (.ins C dx fs') → D.nx σ H1) (hc : Cls K C) (hn : NoAttr K C f) (hl : fs.length < 1000) : sfK K f y D σ (.ref a) H :=
  ⟨a, C, dx, fs, rfl, ho, hc, hn, hl, by rw [hf]; exact q _ (Off.upd (List.mem_singleton.mpr rfl)) upd_same⟩
theorem x_gsub {to ti : TE} {t : TSet} {v : V} {QS : L2.St → Hp → Prop} (h : to σ H fun o H1 => ti σ H1 fun i H2 => t o i v H2 fun H3 => QS σ H3) : gSub to ti t v σ H QS := h
theorem x_setL {xs : List V} {k : Int} {v : V} {QS : Hp → Prop} (hp : H a = some (.lst xs)) (q : ∀ H1, Off [a] H H1 → H1 a = some (.lst (xs.set k.toNat v)) → QS H1) (h0 : 0 ≤ k) (h1 : k < xs.length) : rSetL (.ref a) (.int k) v H QS :=
  ⟨a, xs, k, k.toNat, rfl, rfl, hp, by unfold ixN; rw [if_pos h0, if_pos h1], q _ (Off.upd (List.mem_singleton.mpr rfl)) upd_same⟩
/-- xs[i] of an augmented store -/
def rGetL (K : PySem.W.Frag) : V → V → Hp → VK → Prop := fun o i H Q => ∃ p xs k v, o = .ref p ∧ i = .int k ∧ SqL K H p xs ∧ 0 ≤ k ∧ xs[k.toNat]? = some v ∧ Q v H
theorem get_list {X : Cx} : PGet X (rGetL X.K) := by
  intro pins s σ H o i ov iv Q I ro ri h
  obtain ⟨p, xs, k, v, rfl, rfl, hq, h0, he, q⟩ := h
  cases ro
  obtain ⟨t, rfl⟩ := ri
  obtain ⟨its, r, pl, hz⟩ := I.list hq
  obtain ⟨w, ew, rw'⟩ := r.get he
  have hl := r.length
  have hn := line63
  have hlt := (List.getElem?_eq_some_iff.mp he).1
  exact wpAny_getItem_list pl.isList h0 (by omega) (by simpa using ew) ⟨v, H, I, rw', q⟩
theorem x_augS {to ti te : TE} {tget : V → V → Hp → VK → Prop} {tip : TIp} {tset : TSet} (h : to σ H fun o H1 => ti σ H1 fun i H2 => tget o i H2 fun x H3 => te σ H3 fun y H4 => tip x y H4 fun z H5 => tset o i z H5 fun H6 => D.nx σ H6) : tAugS to ti te tget tip tset D σ H := h
theorem x_seqAS {to ti te : TE} {tget : V → V → Hp → VK → Prop} {tip : TIp} {tset : TSet} {u : TS} (h : tAugS to ti te tget tip tset { D with nx := u D } σ H) : tSeq (tAugS to ti te tget tip tset) u D σ H := h
theorem x_getL {xs : List V} {k : Int} (h : SqL K H a xs) (q : Q (xs.getD k.toNat .non) H) (h0 : 0 ≤ k) (h1 : k < xs.length) : rGetL K (.ref a) (.int k) H Q := ⟨a, xs, k, _, rfl, rfl, h, h0, by
  have hn : k.toNat < xs.length := by omega
  simp [hn], q⟩
theorem x_getI {ns : List Int} {k : Int} (h : SqL K H a (ns.map V.int)) (q : Q (.int (ns.getD k.toNat 0)) H) (h0 : 0 ≤ k) (h1 : k < ns.length) : rGetL K (.ref a) (.int k) H Q := ⟨a, _, k, _, rfl, rfl, h, h0, by
  have hn : k.toNat < ns.length := by omega
  simp [hn], q⟩
theorem x_rSub {m n : Int} (q : Q (.int (m - n)) H) : rSub (.int m) (.int n) H Q := ⟨m, n, rfl, rfl, q⟩
/-- == and != of scalars of any kinds -/
theorem x_eqSc (h : scal x y = true) (q : Q (.bl (decide (x = y))) H) : uEq K x y H Q := .inl ⟨h, q⟩
theorem x_neSc (h : scal x y = true) (q : Q (.bl (!decide (x = y))) H) : uNe K x y H Q := .inl ⟨h, q⟩
/-- xs[i] by values that are named otherwise -/
theorem x_ixF {α : Type} {l : List α} {g : α → V} {k : Int} (d : α) (h : SqL K H a (l.map g)) (q : Q (g (l.getD k.toNat d)) H) (h0 : 0 ≤ k) (h1 : k < l.length) : rIx K (.ref a) (.int k) H Q := by
  have hn : k.toNat < l.length := by omega
  refine x_ixL h ?_ h0 (by rw [List.length_map]; exact h1)
  rw [show (l.map g).getD k.toNat .non = g (l.getD k.toNat d) by simp [hn]]
  exact q
theorem x_f3O {C dx : Addr} {fs fs' : List (Str × V)} {z : V} (ho : H a = some (.ins C dx fs)) (hf : putF f z fs = fs') (q : ∀ H1, Off [a] H H1 → H1 a = some (.ins C dx fs') → D.nx σ H1) (hl : fs.length < 1000) : f3K a C f D σ z H := ⟨dx, fs, ho, hl, by rw [hf]; exact q _ (Off.upd (List.mem_singleton.mpr rfl)) upd_same⟩
theorem nin_of {b : Addr} (h : b ≠ a) : b ∉ [a] := fun z => h (List.mem_singleton.mp z)
theorem x_appO {xs : List V} (h : H a = some (.lst xs)) (q : ∀ H1, Off [a] H H1 → H1 a = some (.lst (xs ++ [y])) → Q .non H1) (hl : xs.length < sizeLine) : rAppend (.ref a) [y] H Q := ⟨a, xs, y, rfl, rfl, h, hl, q _ (Off.upd (List.mem_singleton.mpr rfl)) upd_same⟩
theorem str_len {n : Int} (h0 : 0 ≤ n) (h1 : n < 300) : (Str.ofString (toString n)).length ≤ 20 := by
  have k : ∀ m : Nat, m < 300 → (Str.ofString (toString (m : Int))).length ≤ 20 := by decide +kernel
  have := k n.toNat (by omega)
  rwa [show ((n.toNat : Nat) : Int) = n by omega] at this
theorem small_log {n : Int} (h0 : 0 ≤ n) (h1 : n < 1000000) : n.natAbs.log2 < 1920 := by
  by_cases e : n.natAbs = 0
  · rw [e]; decide
  · exact (Nat.log2_lt e).mpr (Nat.lt_of_lt_of_le (show n.natAbs < 2 ^ 20 by omega) (Nat.pow_le_pow_right (by decide) (by decide)))
theorem x_ixB {bs : List Bool} {k : Int} (h : SqL K H a (bs.map V.bl)) (q : Q (.bl (bs.getD k.toNat false)) H) (h0 : 0 ≤ k) (h1 : k < bs.length) : rIx K (.ref a) (.int k) H Q := x_ixF false h q h0 h1
theorem off_none {r b : Addr} {H1 : Hp} (h : Off [r] H H1) (n : H1 b = none) (hne : b ≠ r) : H b = none := by
  cases e : H b with
  | none => rfl
  | some o => rw [h.at e (nin_of hne)] at n; cases n
theorem x_clearO {xs : List V} (h : H a = some (.lst xs)) (q : ∀ H1, Off [a] H H1 → H1 a = some (.lst []) → Q .non H1) : rClear (.ref a) [] H Q := ⟨a, xs, rfl, rfl, h, q _ (Off.upd (List.mem_singleton.mpr rfl)) upd_same⟩
theorem line_len {n : Nat} (h : n ≤ 1000) : n ≤ sizeLine := Nat.le_trans h (by decide)
/-- or of two tests that only look -/
theorem x_orK {t u : TT} {QB : Bool → Hp → Prop} {b1 b2 : Bool} (h1 : ∀ QB : Bool → Hp → Prop, QB b1 H → t σ H QB) (h2 : ∀ QB : Bool → Hp → Prop, QB b2 H → u σ H QB) (q : QB (b1 || b2) H) : tOr t u σ H QB := by
  refine x_or (h1 _ ?_)
  cases b1 with
  | true => exact q
  | false => exact h2 _ q
theorem x_rAdd {m n : Int} (q : Q (.int (m + n)) H) : rAdd (.int m) (.int n) H Q := ⟨m, n, rfl, rfl, q⟩
theorem x_aug {i : Nat} {ti : TIp} (h : σ[i]? = some (some x)) (q : te σ H fun y H1 => ti x y H1 fun z H2 => D.nx (σ.set i (some z)) H2) : tAug i te ti D σ H := ⟨x, h, q⟩
theorem x_ipI {g : Int → Int → Int} {m n : Int} (q : Q (.int (g m n)) H) : ipI g (.int m) (.int n) H Q := ⟨m, n, rfl, rfl, q⟩
def whK (W : Nat → L2.St → Hp → Prop) (tb : TS) (D : Ends) (m : Nat) (σ : L2.St) : Bool → Hp → Prop := fun b H1 => if b = true then ∃ N : L2.St → Hp → Prop, (∀ σ' H', N σ' H' → ∃ m', m' < m ∧ W m' σ' H') ∧ tb { D with nx := N, ct := N, bk := D.nx } σ H1 else D.nx σ H1
theorem x_whl (W : Nat → L2.St → Hp → Prop) (m : Nat) (h0 : W m σ H) (hs : ∀ m σ H, W m σ H → tc σ H (whK W tb D m σ)) : tWhile tc tb D σ H := ⟨W, ⟨m, h0⟩, hs⟩
theorem x_whD {W : Nat → L2.St → Hp → Prop} {m : Nat} {p : Prop} [Decidable p] (h1 : p → ∀ N : L2.St → Hp → Prop, (∀ m' σ' H', m' < m → W m' σ' H' → N σ' H') → tb { D with nx := N, ct := N, bk := D.nx } σ H) (h2 : ¬ p → D.nx σ H) : whK W tb D m σ (decide p) H := by
  unfold whK
  refine x_iteD (fun h => ?_) h2
  exact ⟨fun σ' H' => ∃ m', m' < m ∧ W m' σ' H', fun _ _ n => n, h1 h _ fun m' σ' H' l w => ⟨m', l, w⟩⟩
theorem x_isN (q : Q (.bl (decide (x = .non))) H) : uIs x .non H Q := .inl ⟨rfl, q⟩
theorem x_isNotN (q : Q (.bl (!decide (x = .non))) H) : uIsNot x .non H Q := .inl ⟨rfl, q⟩
theorem x_isB {b c : Bool} (q : Q (.bl (decide (b = c))) H) : uIs (.bl b) (.bl c) H Q := .inr ⟨b, c, rfl, rfl, q⟩
theorem x_isNotB {b c : Bool} (q : Q (.bl (!decide (b = c))) H) : uIsNot (.bl b) (.bl c) H Q := .inr ⟨b, c, rfl, rfl, q⟩
theorem inV_int (n : Int) (ns : List Int) : inV (.int n) (ns.map V.int) = decide (n ∈ ns) := by
  unfold inV
  induction ns with
  | nil => rfl
  | cons m ns ih =>
    rw [List.map_cons, List.any_cons, ih]
    have e : eqV (.int m) (.int n) = decide (n = m) := by
      show (m == n) = _
      rw [Bool.eq_iff_iff, beq_iff_eq, decide_eq_true_iff]
      exact ⟨Eq.symm, Eq.symm⟩
    rw [e, ← Bool.decide_or, decide_eq_decide, List.mem_cons]
theorem flat_ints (ns : List Int) : (ns.map V.int).all flatV = true := by
  rw [List.all_eq_true]
  intro x h
  obtain ⟨n, _, rfl⟩ := List.mem_map.mp h
  rfl
theorem x_inI {n : Int} {ns : List Int} (h : SqL K H a (ns.map V.int)) (q : Q (.bl (decide (n ∈ ns))) H) : uIn K (.int n) (.ref a) H Q := ⟨a, _, rfl, .inl h, rfl, flat_ints ns, by rw [inV_int] <;> exact q⟩
theorem x_notInI {n : Int} {ns : List Int} (h : SqL K H a (ns.map V.int)) (q : Q (.bl (!decide (n ∈ ns))) H) : uNotIn K (.int n) (.ref a) H Q := ⟨a, _, rfl, .inl h, rfl, flat_ints ns, by rw [inV_int] <;> exact q⟩
end
/-! ### dicts of text keys -/
section
variable {σ : L2.St} {H : Hp} {K : PySem.W.Frag} {D : Ends} {td ty tv : TE} {a : Addr} {Q : VK} {x v : V} {z : Str} {kvs kvs' : List (L2.Key × V)}
def dgK (x : V) (Q : VK) : V → Hp → Prop := fun y H2 => ∃ a v, x = .ref a ∧ DGet H2 a y (some v) ∧ Q v H2
theorem x_dget (h : td σ H fun x H1 => ty σ H1 (dgK x Q)) : tDGet td ty σ H Q := h
theorem x_dgS (h : H a = some (.dK kvs)) (hv : valV kvs (.inr z) = some v) (q : Q v H) : dgK (.ref a) Q (.str z) H := ⟨a, v, rfl, by rw [← hv]; exact DGet.k (k := .inr z) h, q⟩
theorem x_dgI {n : Int} (h : H a = some (.dK kvs)) (hv : valV kvs (.inl n) = some v) (q : Q v H) : dgK (.ref a) Q (.int n) H := ⟨a, v, rfl, by rw [← hv]; exact DGet.k (k := .inl n) h, q⟩
def dpK (x v : V) (D : Ends) (σ : L2.St) : V → Hp → Prop := fun y H3 => ∃ a H4, x = .ref a ∧ DPut H3 a y v H4 ∧ D.nx σ H4
theorem x_dput (h : tv σ H fun v H1 => td σ H1 fun x H2 => ty σ H2 (dpK x v D σ)) : sDPut td ty tv D σ H := h
theorem x_seqDP {u : TS} (h : sDPut td ty tv { D with nx := u D } σ H) : tSeq (sDPut td ty tv) u D σ H := h
theorem x_dpS (h : H a = some (.dK kvs)) (hk : putK kvs (.inr z) v = kvs') (q : ∀ H1, Off [a] H H1 → H1 a = some (.dK kvs') → D.nx σ H1) (hl : kvs.length ≤ 1000) : dpK (.ref a) v D σ (.str z) H :=
  ⟨a, _, rfl, DPut.k (k := .inr z) h (Nat.lt_of_le_of_lt hl (by decide)), by rw [hk]; exact q _ (Off.upd (List.mem_singleton.mpr rfl)) upd_same⟩
theorem x_dpI {n : Int} (h : H a = some (.dK kvs)) (hk : putK kvs (.inl n) v = kvs') (q : ∀ H1, Off [a] H H1 → H1 a = some (.dK kvs') → D.nx σ H1) (hl : kvs.length ≤ 1000) : dpK (.ref a) v D σ (.int n) H :=
  ⟨a, _, rfl, DPut.k (k := .inl n) h (Nat.lt_of_le_of_lt hl (by decide)), by rw [hk]; exact q _ (Off.upd (List.mem_singleton.mpr rfl)) upd_same⟩
/-- {k: v, ..} -/
def dspK (p : Addr) (Q : VK) : List (V × V) → Hp → Prop := fun ps H2 => H2 p = some (.dK []) ∧ ∃ kvs : List (L2.Key × V), ps = kvs.map (fun kv => (kV kv.1, kv.2)) ∧ kvs.length ≤ 15 ∧ Q (.ref p) (upd H2 p (.dK (mergeK [] kvs)))
theorem x_disp {trs : List (TE × TE)} (h : ∀ p H1, H p = none → Same H H1 → H1 p = some (.dK []) → tPairs trs σ H1 (dspK p Q)) : tDisp trs σ H Q := fun p hp => h p _ hp (same_upd hp) upd_same
theorem x_prN {QP : List (V × V) → Hp → Prop} (q : QP [] H) : tPairs [] σ H QP := q
theorem x_prC {tk tv : TE} {r : List (TE × TE)} {QP : List (V × V) → Hp → Prop} (q : tk σ H fun x H1 => tv σ H1 fun y H2 => tPairs r σ H2 fun ps H3 => QP ((x, y) :: ps) H3) : tPairs ((tk, tv) :: r) σ H QP := q
theorem x_dspK {ps : List (V × V)} (kvs : List (L2.Key × V)) (h : H a = some (.dK [])) (e : ps = kvs.map (fun kv => (kV kv.1, kv.2))) (hl : kvs.length ≤ 15) (hm : mergeK [] kvs = kvs') (q : ∀ H1, Off [a] H H1 → H1 a = some (.dK kvs') → Q (.ref a) H1) : dspK a Q ps H :=
  ⟨h, kvs, e, hl, by rw [hm]; exact q _ (Off.upd (List.mem_singleton.mpr rfl)) upd_same⟩
theorem x_dnew (h : ∀ p H1, H p = none → Same H H1 → H1 p = some (.dK []) → Q (.ref p) H1) : tDNewK σ H Q := fun p hp => h p _ hp (same_upd hp) upd_same
/-! k in d, d.get(k), d.get(k, x), d.setdefault(k, x), d.pop(k), d.pop(k, x) -/
def dinK (y : V) (Q : VK) : V → Hp → Prop := fun x H2 => ∃ a o, x = .ref a ∧ DGet H2 a y o ∧ Q (.bl o.isSome) H2
theorem x_din (h : ty σ H fun y H1 => td σ H1 (dinK y Q)) : tDIn ty td σ H Q := h
def dninK (y : V) (Q : VK) : V → Hp → Prop := fun x H2 => ∃ a o, x = .ref a ∧ DGet H2 a y o ∧ Q (.bl (!o.isSome)) H2
theorem x_dnin (h : ty σ H fun y H1 => td σ H1 (dninK y Q)) : tDNotIn ty td σ H Q := h
theorem x_dninI {n : Int} (h : H a = some (.dK kvs)) (q : Q (.bl (!(valV kvs (.inl n)).isSome)) H) : dninK (.int n) Q (.ref a) H := ⟨a, _, rfl, DGet.k (k := .inl n) h, q⟩
theorem x_dinI {n : Int} (h : H a = some (.dK kvs)) (q : Q (.bl (valV kvs (.inl n)).isSome) H) : dinK (.int n) Q (.ref a) H := ⟨a, _, rfl, DGet.k (k := .inl n) h, q⟩
def dg1E (a : Addr) (Q : VK) : V → Hp → Prop := fun y H2 => ∃ o, DGet H2 a y o ∧ Q (o.getD .non) H2
def dg1K (ty : TE) (Q : VK) (σ : L2.St) : V → Hp → Prop := fun x H1 => ∃ a, x = .ref a ∧ IsD H1 a ∧ ty σ H1 (dg1E a Q)
theorem x_dget1 (h : td σ H (dg1K ty Q σ)) : tDGet1 td ty σ H Q := h
theorem x_dg1K (h : H a = some (.dK kvs)) (q : ty σ H (dg1E a Q)) : dg1K ty Q σ (.ref a) H := ⟨a, rfl, .inl ⟨kvs, .inl h⟩, q⟩
theorem x_dg1I {n : Int} (h : H a = some (.dK kvs)) (q : Q ((valV kvs (.inl n)).getD .non) H) : dg1E a Q (.int n) H := ⟨_, DGet.k (k := .inl n) h, q⟩
def dsE (a : Addr) (Q : VK) (y : V) : V → Hp → Prop := fun z H3 => ∃ (kvs : List (L2.Key × V)) (k : L2.Key), H3 a = some (.dK kvs) ∧ y = kV k ∧ kvs.length < sizeLine ∧ (∀ v, valV kvs k = some v → Q v H3) ∧ (valV kvs k = none → Q z (L2.upd H3 a (.dK (putK kvs k z))))
def dsK (ty tx : TE) (Q : VK) (σ : L2.St) : V → Hp → Prop := fun x H1 => ∃ a, x = .ref a ∧ IsD H1 a ∧ ty σ H1 fun y H2 => tx σ H2 (dsE a Q y)
theorem x_dsetd {tx : TE} (h : td σ H (dsK ty tx Q σ)) : tDSetd td ty tx σ H Q := h
theorem x_dsK {tx : TE} (h : H a = some (.dK kvs)) (q : ty σ H fun y H2 => tx σ H2 (dsE a Q y)) : dsK ty tx Q σ (.ref a) H := ⟨a, rfl, .inl ⟨kvs, .inl h⟩, q⟩
theorem x_dsI {n : Int} (h : H a = some (.dK kvs)) (hl : kvs.length ≤ 1000) (q1 : ∀ u, valV kvs (.inl n) = some u → Q u H) (q2 : valV kvs (.inl n) = none → ∀ H1, Off [a] H H1 → H1 a = some (.dK (putK kvs (.inl n) v)) → Q v H1) : dsE a Q (.int n) v H :=
  ⟨kvs, .inl n, h, rfl, Nat.lt_of_le_of_lt hl (by decide), q1, fun hn => q2 hn _ (Off.upd (List.mem_singleton.mpr rfl)) upd_same⟩
def dpp1E (a : Addr) (Q : VK) : V → Hp → Prop := fun y H2 => ∃ kvs k v, H2 a = some (.dK kvs) ∧ y = kV k ∧ valV kvs k = some v ∧ Q v (L2.upd H2 a (.dK (dropK kvs k)))
def dpp1K (ty : TE) (Q : VK) (σ : L2.St) : V → Hp → Prop := fun x H1 => ∃ a, x = .ref a ∧ IsD H1 a ∧ ty σ H1 (dpp1E a Q)
theorem x_dpop1 (h : td σ H (dpp1K ty Q σ)) : tDPop1 td ty σ H Q := h
theorem x_dpp1K (h : H a = some (.dK kvs)) (q : ty σ H (dpp1E a Q)) : dpp1K ty Q σ (.ref a) H := ⟨a, rfl, .inl ⟨kvs, .inl h⟩, q⟩
theorem x_dpp1I {n : Int} (h : H a = some (.dK kvs)) (hv : valV kvs (.inl n) = some v) (q : ∀ H1, Off [a] H H1 → H1 a = some (.dK (dropK kvs (.inl n))) → Q v H1) : dpp1E a Q (.int n) H := ⟨kvs, .inl n, v, h, rfl, hv, q _ (Off.upd (List.mem_singleton.mpr rfl)) upd_same⟩
def dpp2E (a : Addr) (Q : VK) (y : V) : V → Hp → Prop := fun z H3 => ∃ kvs k, H3 a = some (.dK kvs) ∧ y = kV k ∧ (∀ v, valV kvs k = some v → Q v (L2.upd H3 a (.dK (dropK kvs k)))) ∧ (valV kvs k = none → Q z H3)
def dpp2K (ty tx : TE) (Q : VK) (σ : L2.St) : V → Hp → Prop := fun x H1 => ∃ a, x = .ref a ∧ IsD H1 a ∧ ty σ H1 fun y H2 => tx σ H2 (dpp2E a Q y)
theorem x_dpop2 {tx : TE} (h : td σ H (dpp2K ty tx Q σ)) : tDPop2 td ty tx σ H Q := h
theorem x_dpp2K {tx : TE} (h : H a = some (.dK kvs)) (q : ty σ H fun y H2 => tx σ H2 (dpp2E a Q y)) : dpp2K ty tx Q σ (.ref a) H := ⟨a, rfl, .inl ⟨kvs, .inl h⟩, q⟩
theorem x_dpp2I {n : Int} (h : H a = some (.dK kvs)) (q1 : ∀ u, valV kvs (.inl n) = some u → ∀ H1, Off [a] H H1 → H1 a = some (.dK (dropK kvs (.inl n))) → Q u H1) (q2 : valV kvs (.inl n) = none → Q v H) : dpp2E a Q (.int n) v H :=
  ⟨kvs, .inl n, h, rfl, fun u hu => q1 u hu _ (Off.upd (List.mem_singleton.mpr rfl)) upd_same, q2⟩
/-- what a dict of whole numbers tells behind a new pair -/
theorem valV_put_self {kvs : List (L2.Key × V)} {k : L2.Key} (hn : valV kvs k = none) : putK kvs k v = kvs ++ [(k, v)] := by
  unfold putK
  rw [valV_any, hn]
  rfl
end
/-! ### exceptions -/
section
variable {X : Cx} {K : PySem.W.Frag} {W Wout : WX} {D : Ends} {σ : L2.St} {H : Hp} {cls c : Value} {d : Option Addr} {a C fI : Addr} {Q : VK}
/-- an exception class without an own __init__ -/
structure XC (K : PySem.W.Frag) (C : Addr) : Prop where
  q : PySem.W.excIn K C [.type "ValueError", .type "Exception", .type "BaseException", .type "object"] "ValueError.__new__" = true
  k : PySem.W.keepIn K (.ref C) = true
  r : PySem.W.subIn K (.ref C) (.type "BaseException") = some true
  t : PySem.W.typeIn K (.ref C) = some (.type "type")
/-- one with an own __init__ -/
structure XI (K : PySem.W.Frag) (C fI : Addr) : Prop where
  o : OexC K C
  i : PySem.W.findIn K (.ref C) "__init__" = some (some (.ref fI))
  t : PySem.W.typeIn K (.ref fI) = some (.type "function")
  f : XfC K C
def tRaise (t : L2.St → Hp → XK → Prop) (W : WX) : TS := fun _ σ H => t σ H fun cls d H' => W cls d σ H'
theorem ps_raiseK {e : Expr} {t : L2.St → Hp → XK → Prop} {pos : Pos} (hc : X.calm = true) (tk : Takes X W) (he : PMk X e t) : PS X (.Raise (some e) none pos) (tRaise t W) := ps_raise hc tk he
def tMkE (C : Addr) : L2.St → Hp → XK → Prop := fun _ H Q => Q (.ref C) none H
theorem pmk_ownK {x m : Str} {j : Nat} {p p2 pos : Pos} (T : XC X.K C) (gC : X.mg x = some (.ref C)) (hg : Gl X x) (hdb : (x == ("__debug__" : Str)) = false := by decide) : PMk X (.Call (.Name x p) [.Constant (.str m) j p2] [] pos) (tMkE C) :=
  pmk_own PySem.F.excBase_ValueError T.q gC T.k (raises_own T.r T.t) hg hdb
theorem x_raise {t : L2.St → Hp → XK → Prop} (h : t σ H fun cls d H' => W cls d σ H') : tRaise t W D σ H := h
theorem x_seqR {t : L2.St → Hp → XK → Prop} {u : TS} (h : tRaise t W { D with nx := u D } σ H) : tSeq (tRaise t W) u D σ H := h
theorem x_mkE {Q : XK} (q : Q (.ref C) none H) : tMkE C σ H Q := q
def tTry1 (K : PySem.W.Frag) (c : Value) (tb : WX → TS) (ts : Addr → Value → Option Addr → TS) (Wout : WX) : TS := fun D σ H => tb (wOnly K c ts Wout D) D σ H
theorem x_try1 {tb : WX → TS} {ts : Addr → Value → Option Addr → TS} (h : tb (wOnly K c ts Wout D) D σ H) : tTry1 K c tb ts Wout D σ H := h
theorem x_seqT1 {tb : WX → TS} {ts : Addr → Value → Option Addr → TS} {u : TS} (h : tTry1 K c tb ts Wout { D with nx := u D } σ H) : tSeq (tTry1 K c tb ts Wout) u D σ H := h
theorem ps_try1 {x : Str} {body suite : List Stmt} {b₀ : Stmt} {np pos pos' : Pos} {tb : WX → TS} {ts : Addr → Value → Option Addr → TS} (hs : X.stack = X.env :: X.outer) (hf : X.env.frame = some X.env.locals) (hc : Names X x c) (tk : Takes X Wout)
    (hb : ∀ (W : WX) (pn : List (Addr × Obj)) (xe : Value → Shared → Prop), Takes (X.tr pn xe) W → PassesOwn (model X.prog X.w) X.A X.env xe → PSs (X.tr pn xe) body (tb W))
    (hsu : ∀ (a : Addr) (oe : Obj) (cls : Value) (d : Option Addr) (pn : List (Addr × Obj)), Zc cls d oe → (∃ vs, oe.data = .fields vs) → PSs (X.suite a ((a, oe) :: pn)) (b₀ :: suite) (ts a cls d)) :
    PS X (.Try body [.ExceptHandler (some (.Name x np)) none (b₀ :: suite) pos'] [] [] pos) (tTry1 X.K c tb ts Wout) := ps_try_only hs hf hc tk hb hsu
theorem x_onlyT {ts : Addr → Value → Option Addr → TS} (hx : PySem.W.exmOne K cls c = some true) (q : ∀ a, H a = none → ts a cls d D σ H) : wOnly K c ts Wout D cls d σ H := ⟨true, hx, fun _ => q, fun z => nomatch z⟩
theorem x_onlyF {ts : Addr → Value → Option Addr → TS} (hx : PySem.W.exmOne K cls c = some false) (q : Wout cls d σ H) : wOnly K c ts Wout D cls d σ H := ⟨false, hx, (fun z => nomatch z), fun _ => q⟩
def tTryA (K : PySem.W.Frag) (c : Value) (i : Nat) (tb : WX → TS) (ts : Addr → Value → Option Addr → TS) (Wout : WX) : TS := fun D σ H => tb (wAs K c i ts Wout D) D σ H
theorem x_tryA {i : Nat} {tb : WX → TS} {ts : Addr → Value → Option Addr → TS} (h : tb (wAs K c i ts Wout D) D σ H) : tTryA K c i tb ts Wout D σ H := h
theorem x_seqTA {i : Nat} {tb : WX → TS} {ts : Addr → Value → Option Addr → TS} {u : TS} (h : tTryA K c i tb ts Wout { D with nx := u D } σ H) : tSeq (tTryA K c i tb ts Wout) u D σ H := h
theorem ps_tryA {x n : Str} {i : Nat} {body suite : List Stmt} {b₀ : Stmt} {np pos pos' : Pos} {tb : WX → TS} {ts : Addr → Value → Option Addr → TS} (hs : X.stack = X.env :: X.outer) (hf : X.env.frame = some X.env.locals) (hN : X.N.Nodup) (hi : X.N[i]? = some n) (hln : X.env.kindOf n = some .local) (hc : Names X x c) (tk : Takes X Wout)
    (hb : ∀ (W : WX) (pn : List (Addr × Obj)) (xe : Value → Shared → Prop), Takes (X.tr pn xe) W → PassesOwn (model X.prog X.w) X.A X.env xe → PSs (X.tr pn xe) body (tb W))
    (hsu : ∀ (a : Addr) (oe : Obj) (cls : Value) (d : Option Addr) (pn : List (Addr × Obj)), Zc cls d oe → (∃ vs, oe.data = .fields vs) → PSs (X.suite a ((a, oe) :: pn)) (b₀ :: suite) (ts a cls d)) :
    PS X (.Try body [.ExceptHandler (some (.Name x np)) (some n) (b₀ :: suite) pos'] [] [] pos) (tTryA X.K c i tb ts Wout) := ps_try_as hs hf hN hi hln hc tk hb hsu
theorem x_asT {i : Nat} {ts : Addr → Value → Option Addr → TS} (hx : PySem.W.exmOne K cls c = some true)
    (q : ∀ a, H a = none → ts a cls d { nx := fun σ' H' => D.nx (σ'.set i none) H', rt := D.rt, bk := fun σ' H' => D.bk (σ'.set i none) H', ct := fun σ' H' => D.ct (σ'.set i none) H' } (σ.set i (some (.ref a))) H) : wAs K c i ts Wout D cls d σ H := ⟨true, hx, fun _ => q, fun z => nomatch z⟩
theorem x_asF {i : Nat} {ts : Addr → Value → Option Addr → TS} (hx : PySem.W.exmOne K cls c = some false) (q : Wout cls d σ H) : wAs K c i ts Wout D cls d σ H := ⟨false, hx, (fun z => nomatch z), fun _ => q⟩
/-! several except clauses -/
def tTryM (K : PySem.W.Frag) (l : List (Value × (Addr → Value → Option Addr → TS))) (tb : WX → TS) (Wout : WX) : TS := fun D σ H => tb (wMany K Wout D l) D σ H
theorem x_tryM {l : List (Value × (Addr → Value → Option Addr → TS))} {tb : WX → TS} (h : tb (wMany K Wout D l) D σ H) : tTryM K l tb Wout D σ H := h
theorem x_seqTM {l : List (Value × (Addr → Value → Option Addr → TS))} {tb : WX → TS} {u : TS} (h : tTryM K l tb Wout { D with nx := u D } σ H) : tSeq (tTryM K l tb Wout) u D σ H := h
theorem ps_tryM {body : List Stmt} {h₀ : ExceptHandler} {hds : List ExceptHandler} {l : List (Value × (Addr → Value → Option Addr → TS))} {pos : Pos} {tb : WX → TS} (hs : X.stack = X.env :: X.outer) (hf : X.env.frame = some X.env.locals) (tk : Takes X Wout)
    (hb : ∀ (W : WX) (pn : List (Addr × Obj)) (xe : Value → Shared → Prop), Takes (X.tr pn xe) W → PassesOwn (model X.prog X.w) X.A X.env xe → PSs (X.tr pn xe) body (tb W))
    (hh : HdsOk X (h₀ :: hds) l) : PS X (.Try body (h₀ :: hds) [] [] pos) (tTryM X.K l tb Wout) := ps_try_many hs hf tk hb hh
theorem x_manyT {l : List (Value × (Addr → Value → Option Addr → TS))} {ts : Addr → Value → Option Addr → TS} (hx : PySem.W.exmOne K cls c = some true) (q : ∀ a, H a = none → ts a cls d D σ H) : wMany K Wout D ((c, ts) :: l) cls d σ H := ⟨true, hx, fun _ => q, fun z => nomatch z⟩
theorem x_manyF {l : List (Value × (Addr → Value → Option Addr → TS))} {ts : Addr → Value → Option Addr → TS} (hx : PySem.W.exmOne K cls c = some false) (q : wMany K Wout D l cls d σ H) : wMany K Wout D ((c, ts) :: l) cls d σ H := ⟨false, hx, (fun z => nomatch z), fun _ => q⟩
theorem x_manyN (q : Wout cls d σ H) : wMany K Wout D [] cls d σ H := q
/-- e.f of a caught exception -/
def xfK (a : Addr) (cls : Value) (d : Option Addr) (C : Addr) (f : Str) (Q : VK) : V → Hp → Prop := fun x H1 => x = .ref a ∧ cls = .ref C ∧ ∃ (dd : Addr) (fs : List (Str × V)) (v : V), d = some dd ∧ H1 dd = some (.xd fs) ∧ fs.lookup f = some v ∧ Q v H1
theorem x_xf {f : Str} {te : TE} (h : te σ H (xfK a cls d C f Q)) : tXf a cls d C f te σ H Q := h
theorem x_xfK {f : Str} {dd : Addr} {fs : List (Str × V)} {v : V} (h : H dd = some (.xd fs)) (hl : fs.lookup f = some v) (q : Q v H) : xfK a (.ref C) (some dd) C f Q (.ref a) H := ⟨rfl, rfl, dd, fs, v, rfl, h, hl, q⟩
/-- isinstance(e, c) of a caught exception without fields -/
def rIsX (K : PySem.W.Frag) (a : Addr) (cls : Value) (d : Option Addr) : List V → Hp → VK → Prop := fun xs H Q => ∃ (E : Addr) (t : String) (b : Bool), cls = .ref E ∧ d = none ∧ ExcC K E ∧ xs = [.ref a, .ty t] ∧ PySem.W.kitOne K (.ref E) (.type t) = some b ∧ Q (.bl b) H
/-- isinstance(e, C), C an own class -/
def rIsXC (K : PySem.W.Frag) (a : Addr) (cls : Value) (d : Option Addr) : List V → Hp → VK → Prop := fun xs H Q => ∃ (E C : Addr) (b : Bool), cls = .ref E ∧ d = none ∧ ExcC K E ∧ xs = [.ref a, .ref C] ∧ PySem.W.kitOne K (.ref E) (.ref C) = some b ∧ Q (.bl b) H
theorem cr_isXC {oe : Obj} {pn : List (Addr × Obj)} (hz : Zc cls d oe) (hf : ∃ vs, oe.data = .fields vs) : CallR (X.suite a ((a, oe) :: pn)) (.builtin "isinstance") (rIsXC X.K a cls d) := by
  intro pins s σ H xs us Q I r h
  obtain ⟨E, C, b, rfl, rfl, hE, rfl, hk, q⟩ := h
  exact call_isE hE hz hf pins s σ H _ us Q I r ⟨.ref C, .ref C, b, rfl, fun u z => z, hk, q⟩
theorem x_isXC {E C : Addr} {b : Bool} (q : Q (.bl b) H) (hE : ExcC K E) (hk : PySem.W.kitOne K (.ref E) (.ref C) = some b) : rIsXC K a (.ref E) none [.ref a, .ref C] H Q := ⟨E, C, b, rfl, rfl, hE, rfl, hk, q⟩
theorem cr_isX {oe : Obj} {pn : List (Addr × Obj)} (hz : Zc cls d oe) (hf : ∃ vs, oe.data = .fields vs) : CallR (X.suite a ((a, oe) :: pn)) (.builtin "isinstance") (rIsX X.K a cls d) := by
  intro pins s σ H xs us Q I r h
  obtain ⟨E, t, b, rfl, rfl, hE, rfl, hk, q⟩ := h
  exact call_isE hE hz hf pins s σ H _ us Q I r ⟨.ty t, .type t, b, rfl, fun u z => z, hk, q⟩
theorem x_isX {E : Addr} {t : String} {b : Bool} (q : Q (.bl b) H) (hE : ExcC K E) (hk : PySem.W.kitOne K (.ref E) (.type t) = some b) : rIsX K a (.ref E) none [.ref a, .ty t] H Q := ⟨E, t, b, rfl, rfl, hE, rfl, hk, q⟩
/-! a class with an own __init__ -/
structure WInit (K : PySem.W.Frag) (W : Addr) : Prop where
  ga : PySem.W.specialIn K (.ref W) "__getattribute__" = some (some (.builtin "type.__getattribute__"))
  rd : PySem.W.readsIn K W (.type "type") = true
  fd : PySem.W.findCls K (.ref W) (.type "type") "__init__" = some (.val (.builtin "ValueError.__init__"))
theorem pe_weinit {pl : Sem Bool} {x : Str} {Wc : Addr} {e : Expr} {es : List Expr} {ta : TA} {p1 p2 pos : Pos} (w : WInit X.K Wc) (hg : Gl X x) (hm : X.mg x = some (.ref Wc)) (ha : PA X (e :: es) ta) (hdb : (x == ("__debug__" : Str)) = false := by decide)
    (hc : eval (.Call (.Attribute (.Name x p1) "__init__" p2) (e :: es) [] pos) X.env = (do
      let ov ← eval (.Name x p1) X.env
      standAt p2.atName
      let (f, first) ← holding [ov] (getMethod ov "__init__" pl)
      callWith pos f first (backTo pos (starEach (e :: es) X.env)) (backToKw pos (keywordEach [] X.env))) := by rfl)
    (he : starEach (e :: es) X.env = (false, eval e X.env) :: starEach es X.env := by rfl) (hpl : (backTo pos (starEach es X.env)).any (·.1) = false := by rfl) :
    PE X (.Call (.Attribute (.Name x p1) "__init__" p2) (e :: es) [] pos) (tVeI X.K ta) := by
  refine ⟨fun pins s σ H Q I h => ?_⟩
  refine PySem.W.methodCall_KW (ld_glob I hg hm ?_ hdb) hc
  refine PySem.W.method_cls I.kIn w.ga (PySem.W.cls_value I.kIn w.rd w.fd (by decide +kernel) ?_)
  show wpAny _ _ (callWith pos (Value.builtin "ValueError.__init__") [] (backTo pos (starEach (e :: es) X.env)) []) _ _ _
  refine PyProof.Rows.callWith_method1 (thn (ha.run pos pins _ σ H _ (I.tok _) h) fun us s1 ⟨vs, H1, I1, r1, a, C, ws, ev, hl, T, ea, q⟩ => ?_) he hpl
  subst ev
  cases r1 with
  | @cons _ u0 _ ur ra rw' =>
    obtain rfl : u0 = Value.ref a := ra
    have hlen : ur.length ≤ sizeLine := by
      rw [← Paired.length rw', sizeLine_eq]
      omega
    exact oinit_ok T I1 ea hlen fun s' J => ⟨.non, H1, J, rfl, q⟩
def veK (K : PySem.W.Frag) (Q : VK) : List V → Hp → Prop := fun vs H1 => ∃ (a C : Addr) (ws : List V), vs = .ref a :: ws ∧ ws.length ≤ 1000 ∧ OexC K C ∧ H1 a = some (exo a C none) ∧ Q .non H1
theorem x_vei {ta : TA} (h : ta σ H (veK K Q)) : tVeI K ta σ H Q := h
theorem x_veK {ws : List V} (o : OexC K C) (h : H a = some (exo a C none)) (q : Q .non H) (hl : ws.length ≤ 1000) : veK K Q (.ref a :: ws) H := ⟨a, C, ws, rfl, hl, o, h, q⟩
/-- self.f = v, the first one -/
theorem x_ost {f : Str} {to te : TE} (h : te σ H fun y H1 => to σ H1 fun x H2 => ∃ a C : Addr, x = .ref a ∧ OexC K C ∧ PySem.W.findIn K (.ref C) f = some none ∧
  ((H2 a = some (exo a C none) ∧ ∀ dx, H2 dx = none → dx ≠ a → D.nx σ (upd (upd H2 dx (exd dx [(f, y)])) a (exo a C (some dx)))) ∨
    ∃ (dx : Addr) (fs : List (Str × V)), H2 a = some (exo a C (some dx)) ∧ H2 dx = some (exd dx fs) ∧ fs.length ≤ 900 ∧ D.nx σ (upd H2 dx (exd dx ((f, y) :: fs))))) : tOst K f to te D σ H := h
/-- the spec of an exception's __init__ with one field f: what is left -/
def spXInit (K : PySem.W.Frag) (C : Addr) (f : Str) (A : V → Prop) : Sp := fun vs H Q _ => ∃ (a : Addr) (v : V), vs = [.ref a, v] ∧ A v ∧ OexC K C ∧ PySem.W.findIn K (.ref C) f = some none ∧ H a = some (exo a C none) ∧
  ∀ dx, H dx = none → dx ≠ a → Q .non (upd (upd H dx (exd dx [(f, v)])) a (exo a C (some dx)))
theorem passE0 : Passes (L2.CX X.prog X.w) X (fun _ _ _ => False) := fun _ _ _ _ _ _ _ h => by
  obtain ⟨_, _, _, _, _, _, _, _, _, _, _, _, z⟩ := h
  exact z.elim
def moK (C : Addr) (sp : Sp) (dvs : List V) (Q : XK) : List V → Hp → Prop := fun vs H1 => vs.length ≤ 1000 ∧ ∀ a, H1 a = none → sp (.ref a :: (vs ++ dvs)) (upd H1 a (exo a C none))
  (fun v H2 => v = .non ∧ ∃ (d : Addr) (fs : List (Str × V)), H2 a = some (exo a C (some d)) ∧ H2 d = some (exd d fs) ∧ H1 d = none ∧ Q (.ref C) (some d) (upd (del H2 a) d (.xd fs))) (fun _ _ _ => False)
theorem x_mkO {sp : Sp} {dvs : List V} {Q : XK} {ta : TA} (h : ta σ H (moK C sp dvs Q)) : tMkO C sp dvs ta σ H Q := h
theorem x_moK {f : Str} {v : V} {A : V → Prop} {Q : XK} (hv : A v) (q : ∀ d H1, H d = none → Same H H1 → H1 d = some (.xd [(f, v)]) → Q (.ref C) (some d) H1) (o : OexC K C) (n : PySem.W.findIn K (.ref C) f = some none) : moK C (spXInit K C f A) [] Q [v] H := by
  refine ⟨Nat.le_of_ble_eq_true rfl, fun a na => ⟨a, v, rfl, hv, o, n, upd_same, fun dx nd ne => ⟨rfl, dx, [(f, v)], upd_same, ?_, ?_, ?_⟩⟩⟩
  · rw [upd_ne ne, upd_same]
  · rw [upd_ne ne] at nd; exact nd
  · rw [upd_ne ne] at nd
    have e : upd (del (upd (upd (upd H a (exo a C none)) dx (exd dx [(f, v)])) a (exo a C (some dx))) a) dx (.xd [(f, v)]) = upd H dx (.xd [(f, v)]) := by
      funext b
      by_cases hb : b = dx
      · rw [hb, upd_same, upd_same]
      · rw [upd_ne hb, upd_ne hb]
        by_cases hba : b = a
        · rw [hba, del_same, na]
        · rw [del_ne hba, upd_ne hba, upd_ne hb, upd_ne hba]
    rw [e]
    exact q dx _ nd (same_upd nd) upd_same
end
/-! several except clauses, some of them with a name -/
section
variable {X : Cx}
/-- what a clause does with an exception at q: the slot of its name, if it has one, holds it -/
def inAs (o : Option Nat) (ts : Addr → Value → Option Addr → TS) (q : Addr) (cls : Value) (d : Option Addr) : TS := match o with
  | none => ts q cls d
  | some i => fun D σ H => ts q cls d { nx := fun σ' H' => D.nx (σ'.set i none) H', rt := D.rt, bk := fun σ' H' => D.bk (σ'.set i none) H', ct := fun σ' H' => D.ct (σ'.set i none) H' } (σ.set i (some (.ref q))) H
def wMix (K : PySem.W.Frag) (Wout : WX) (D : Ends) : List (Value × Option Nat × (Addr → Value → Option Addr → TS)) → WX
  | [] => Wout
  | (c, o, ts) :: r => fun cls d σ H => ∃ b, PySem.W.exmOne K cls c = some b ∧ (b = true → ∀ q, H q = none → inAs o ts q cls d D σ H) ∧ (b = false → wMix K Wout D r cls d σ H)
inductive Cl (X : Cx) : List ExceptHandler → List (Value × Option Nat × (Addr → Value → Option Addr → TS)) → Prop
  | nil : Cl X [] []
  | one {x : Str} {c : Value} {ts : Addr → Value → Option Addr → TS} {b₀ : Stmt} {su : List Stmt} {p1 p2 : Pos} {hs : List ExceptHandler} {l : List (Value × Option Nat × (Addr → Value → Option Addr → TS))} (nm : Names X x c)
      (k : ∀ (q : Addr) (oe : Obj) (cls : Value) (d : Option Addr) (pn : List (Addr × Obj)), Zc cls d oe → (∃ vs, oe.data = .fields vs) → PSs (X.suite q ((q, oe) :: pn)) (b₀ :: su) (ts q cls d)) (r : Cl X hs l) :
      Cl X (.ExceptHandler (some (.Name x p1)) none (b₀ :: su) p2 :: hs) ((c, none, ts) :: l)
  | asn {x n : Str} {i : Nat} {c : Value} {ts : Addr → Value → Option Addr → TS} {b₀ : Stmt} {su : List Stmt} {p1 p2 : Pos} {hs : List ExceptHandler} {l : List (Value × Option Nat × (Addr → Value → Option Addr → TS))} (hi : X.N[i]? = some n) (hl : X.env.kindOf n = some .local) (nm : Names X x c)
      (k : ∀ (q : Addr) (oe : Obj) (cls : Value) (d : Option Addr) (pn : List (Addr × Obj)), Zc cls d oe → (∃ vs, oe.data = .fields vs) → PSs (X.suite q ((q, oe) :: pn)) (b₀ :: su) (ts q cls d)) (r : Cl X hs l) :
      Cl X (.ExceptHandler (some (.Name x p1)) (some n) (b₀ :: su) p2 :: hs) ((c, some i, ts) :: l)
def tMix (K : PySem.W.Frag) (l : List (Value × Option Nat × (Addr → Value → Option Addr → TS))) (tb : WX → TS) (Wout : WX) : TS := fun D σ H => tb (wMix K Wout D l) D σ H
theorem ps_mix {body : List Stmt} {h0 : ExceptHandler} {hs : List ExceptHandler} {l : List (Value × Option Nat × (Addr → Value → Option Addr → TS))} {pos : Pos} {tb : WX → TS} {Wout : WX}
    (es : X.stack = X.env :: X.outer) (ef : X.env.frame = some X.env.locals) (nd : X.N.Nodup) (tk : Takes X Wout)
    (hb : ∀ (W : WX) (pn : List (Addr × Obj)) (xe : Value → Shared → Prop), Takes (X.tr pn xe) W → PassesOwn (model X.prog X.w) X.A X.env xe → PSs (X.tr pn xe) body (tb W))
    (cl : Cl X (h0 :: hs) l) : PS X (.Try body (h0 :: hs) [] [] pos) (tMix X.K l tb Wout) := by
  refine ⟨fun pins s σ H D I h => wpAny_Try_except ?_⟩
  have ok := I.ok
  have frs1 : X.A.frames = some (X.env :: X.outer) := by rw [ok.frames, es]
  have run := (hb (wMix X.K Wout D l) (X.pn ++ pins) (fun e z1 => wpAny (model X.prog X.w) X.A (noteFrame e X.env) (fun _ z2 => wpAny (model X.prog X.w) X.A (setFlight e none)
    (fun _ z3 => wpAny (model X.prog X.w) X.A (handleBy e X.env (h0 :: hs)) (SP X pins D) X.xe z3) X.xe z2) X.xe z1) (fun u t xx => ?_) PassesOwn.looking).run [] s σ H D (I.toTry _) h
  · refine wpAny_mono run (fun f z hz => ?_) (fun _ _ k => k)
    cases f
    · obtain ⟨σ', H', J, y⟩ := hz; exact wpAny_execs_nil ⟨σ', H', J.ofTry ok, y⟩
    · obtain ⟨σ', H', J, y⟩ := hz; exact ⟨σ', H', J.ofTry ok, y⟩
    · obtain ⟨σ', H', J, y⟩ := hz; exact ⟨σ', H', J.ofTry ok, y⟩
    · obtain ⟨v, σ', H', J, r, y⟩ := hz; exact ⟨v, σ', H', J.ofTry ok, r, y⟩
  obtain ⟨q, bs, sI, pins', τ, G, cls, d, rfl, J0, nb, u1, sk0, nq, os, ag, wish⟩ := xx
  have J : Inv X pins τ G sI := J0.ofTry ok
  have sk : Sky bs (X.env :: X.outer) q (Zc cls d) X.env.locals t.heap := by rw [← es]; exact sk0
  show wpAny (model X.prog X.w) X.A (noteFrame (.ref q) X.env) _ _ t
  refine Sky.land Zc.steady frs1 ef sk fun m fm u2 => ?_
  have Jm : Inv X pins τ G { t with heap := m } := J.landed nb fm.1 (u1.trans u2) os ag
  obtain ⟨om, vm, gm, zm, dm⟩ := fm.there
  have far : q ∉ L2.frs (X.env :: X.outer) := fun hm => by
    obtain ⟨_, o', e', hnf⟩ := fm.2.2.1.mem hm
    rw [gm] at e'; cases e'; exact hnf _ dm
  have qL : q ≠ X.env.locals := fun z => far (List.mem_filterMap.mpr ⟨X.env, List.mem_cons_self, by rw [ef, z]⟩)
  have qF : q ∉ X.fs := fun hm => by
    obtain ⟨e, he, y⟩ := List.mem_filterMap.mp hm
    exact far (List.mem_filterMap.mpr ⟨e, List.mem_cons_of_mem _ he, y⟩)
  have Sm := Jm.suite gm dm nq qL qF
  suffices go : ∀ (hs' : List ExceptHandler) (l' : List (Value × Option Nat × (Addr → Value → Option Addr → TS))), Cl X hs' l' → wMix X.K Wout D l' cls d τ G →
      wpAny (model X.prog X.w) X.A (handleBy (.ref q) X.env hs') (SP X pins D) X.xe { t with heap := m } from go _ _ cl wish
  have looks : PySem.W.Looks (model X.prog X.w) m (typeOf (.ref q)) cls := fun A Q E z k y => wpAny_typeOf_ref (k _ _ gm) (by rw [zm.1]; exact y)
  have nameIs : ∀ {x : Str} {c : Value} {p1 : Pos} {Q E : Value → Shared → Prop}, Names X x c → Q c { t with heap := m } →
      wpAny (model X.prog X.w) (X.A.mark (some (.ref q))) (eval (.Name x p1) X.env) Q E { t with heap := m } := fun nm y => by
    obtain ⟨hg, hdbg, hm | ⟨hm, hv, hnn⟩⟩ := nm
    · exact ld_glob (X := X.suite q ((q, om) :: (X.pn ++ pins))) Sm hg hm y hdbg
    · exact ld_blt (X := X.suite q ((q, om) :: (X.pn ++ pins))) Sm hg hm hv y hnn hdbg
  intro hs' l' hk
  induction hk with
  | nil =>
    intro wo
    refine wpAny_handleBy_nil ?_
    have fm' := fm
    obtain ⟨_, _, _, oe, vs, T, oT, _, g0, z0, d0, i0, _⟩ := fm'
    unfold PySem.passOn
    refine wpAny_bind (wpAny_field g0 d0 i0 ?_)
    rw [if_neg (show ¬ ((Value.ref T == Value.none) = true) by simp)]
    have out : wpAny (model X.prog X.w) X.A (setFlight (.ref q) X.env.frame) (fun _ z4 => wpAny (model X.prog X.w) X.A (throw (.ref q) : Sem Flow) (SP X pins D) X.xe z4) X.xe { t with heap := m } := by
      rw [ef]
      exact HandSPX.setFlight_upZ fm fun m4 hh4 u4 => wpAny_throw (tk _ _ ⟨q, bs, sI, pins, τ, G, cls, d, rfl, J, nb, (u1.trans u2).trans u4, .inr (.inr (by rw [es]; exact hh4)), nq, os, ag, wo⟩)
    first | exact wpAny_bind (wpAny_pure (wpAny_bind out)) | exact wpAny_bind out
  | @one x c ts b₀ su p1 p2 hs2 l2 nm k r ih =>
    intro ⟨b, hb1, yes, no⟩
    refine wpAny_handleBy_cons (codeAny_handlers_test ?_) (by intro y; cases y)
    refine nameIs nm ((PySem.W.exm_one (M := model X.prog X.w) Jm.kIn looks hb1).here ?_)
    cases b
    · show wpAny (model X.prog X.w) X.A (handleBy (.ref q) X.env hs2) _ _ _
      exact ih (no rfl)
    refine codeAny_handlers_suite (HandSPX.lands_againZ fm fun m4 f4 u4 => ?_)
    have J4 : Inv X pins τ G { t with heap := m4 } := J.landed nb f4.1 ((u1.trans u2).trans u4) os ag
    obtain ⟨o4, v4, g4, z4, d4⟩ := f4.there
    refine wpAny_mono ((k q o4 cls d (X.pn ++ pins) z4 ⟨_, d4⟩).run [] _ _ G _ (J4.suite g4 d4 nq qL qF) (yes rfl q nq)) (fun f z hz => ?_) (fun _ _ y => y.elim)
    cases f
    · obtain ⟨σ6, H6, S6, y⟩ := hz; exact ⟨_, _, S6.unsuite ok, y⟩
    · obtain ⟨σ6, H6, S6, y⟩ := hz; exact ⟨_, _, S6.unsuite ok, y⟩
    · obtain ⟨σ6, H6, S6, y⟩ := hz; exact ⟨_, _, S6.unsuite ok, y⟩
    · obtain ⟨v6, σ6, H6, S6, r6, y⟩ := hz; exact ⟨_, _, _, S6.unsuite ok, r6, y⟩
  | @asn x n i c ts b₀ su p1 p2 hs2 l2 hi hl nm k r ih =>
    intro ⟨b, hb1, yes, no⟩
    refine wpAny_handleBy_cons (codeAny_handlers_test ?_) (by intro y; cases y)
    refine nameIs nm ((PySem.W.exm_one (M := model X.prog X.w) Jm.kIn looks hb1).here ?_)
    cases b
    · show wpAny (model X.prog X.w) X.A (handleBy (.ref q) X.env hs2) _ _ _
      exact ih (no rfl)
    refine codeAny_handlers_suite_as (HandSPX.lands_againZ fm fun m4 f4 u4 => ?_)
    have J4 : Inv X pins τ G { t with heap := m4 } := J.landed nb f4.1 ((u1.trans u2).trans u4) os ag
    obtain ⟨o4, v4, g4, z4, d4⟩ := f4.there
    refine store_ok (X := X.suite q ((q, o4) :: (X.pn ++ pins))) (v := .ref q) (J4.suite g4 d4 nq qL qF) nd hi (.inl hl) rfl (fun z5 S5 => ?_) (.inr hl)
    refine wpAny_mono ((k q o4 cls d (X.pn ++ pins) z4 ⟨_, d4⟩).run [] z5 _ G _ S5 (yes rfl q nq)) (fun f z hz => ?_) (fun _ _ y => y.elim)
    have gone : ∀ {σ6 : L2.St} {H6 : Hp} {Q : Shared → Prop}, Inv (X.suite q ((q, o4) :: (X.pn ++ pins))) [] σ6 H6 z → (∀ z7, Inv X pins (σ6.set i none) H6 z7 → Q z7) →
        wpAny (model X.prog X.w) X.A (do bindName X.env n .none; unbindBehindTheSuite X.env n p2) (fun _ z7 => Q z7) X.xe z := fun S6 y => gone_ok (S6.unsuite ok) nd hi hl y
    cases f
    · obtain ⟨σ6, H6, S6, y⟩ := hz; exact gone S6 fun z7 J7 => ⟨_, _, J7, y⟩
    · obtain ⟨σ6, H6, S6, y⟩ := hz; exact gone S6 fun z7 J7 => ⟨_, _, J7, y⟩
    · obtain ⟨σ6, H6, S6, y⟩ := hz; exact gone S6 fun z7 J7 => ⟨_, _, J7, y⟩
    · obtain ⟨v6, σ6, H6, S6, r6, y⟩ := hz; exact gone S6 fun z7 J7 => ⟨_, _, _, J7, r6, y⟩
variable {K : PySem.W.Frag} {Wout : WX} {D : Ends} {σ : L2.St} {H : Hp} {cls c : Value} {d : Option Addr}
theorem x_mix {l : List (Value × Option Nat × (Addr → Value → Option Addr → TS))} {tb : WX → TS} (h : tb (wMix K Wout D l) D σ H) : tMix K l tb Wout D σ H := h
theorem x_seqMix {l : List (Value × Option Nat × (Addr → Value → Option Addr → TS))} {tb : WX → TS} {u : TS} (h : tMix K l tb Wout { D with nx := u D } σ H) : tSeq (tMix K l tb Wout) u D σ H := h
theorem x_mixT {o : Option Nat} {l : List (Value × Option Nat × (Addr → Value → Option Addr → TS))} {ts : Addr → Value → Option Addr → TS} (hx : PySem.W.exmOne K cls c = some true) (y : ∀ q, H q = none → inAs o ts q cls d D σ H) : wMix K Wout D ((c, o, ts) :: l) cls d σ H := ⟨true, hx, fun _ => y, fun z => nomatch z⟩
theorem x_mixF {o : Option Nat} {l : List (Value × Option Nat × (Addr → Value → Option Addr → TS))} {ts : Addr → Value → Option Addr → TS} (hx : PySem.W.exmOne K cls c = some false) (y : wMix K Wout D l cls d σ H) : wMix K Wout D ((c, o, ts) :: l) cls d σ H := ⟨false, hx, (fun z => nomatch z), fun _ => y⟩
theorem x_mixN (y : Wout cls d σ H) : wMix K Wout D [] cls d σ H := y
end
/-! list(reversed(x)), x a list -/
section
variable {prog : Program} {w : World} {A : Around} {E : Value → Shared → Prop} {s : Shared} {it l S : Addr} {items : Array Value}
theorem rev_ext {R : Result → Shared → Prop} {c₀ : Nat} (res : Value) (hh : A.handled = none) (hit : s.heap.IsRevIter it l ((items.size : Int) - 1)) (hl : s.heap.IsList l items) (n1 : l ≠ it) (n2 : S ≠ it) (n3 : S ≠ l) (hn : items.size ≤ sizeLine)
    (hS : s.heap.get? S = some { cls := .type "list", data := .seq #[] c₀ })
    (k : ∀ h' tk acc' c', (∀ b o, b ≠ S → b ≠ it → s.heap.get? b = some o → h'.get? b = some o) → h'.get? S = some { cls := .type "list", dict := none, data := .seq acc' c', slots := #[] } → ItemsOf (fun i v => items[items.size - 1 - i]? = some v) acc' items.size → R (.ok (.ret res)) { s with heap := h', toks := tk }) :
    wpAny (model prog w) A.in1 (Builtin.List.listExtendWith (.ref S) (.ref it) res)
      (fun fin t => match fin with | .done f => R (.ok f) t | .again c' => c'.quiet = true ∧ codeAny (model prog w) A c' R t) (fun e t => R (.error e) t) s := by
  have W := (Walks.listRev (prog := prog) (w := w) (A := A.in1) hh it l n1 items).toS
  have out : S ∉ [it, l] := by simp only [List.mem_cons, List.not_mem_nil, or_false, not_or]; exact ⟨n2, n3⟩
  have ty : s.TypeIs (.ref it) "list_reverseiterator" := Heap.IsRevIter.typeIs hit
  have e0 : ((items.size : Nat) : Int) - 1 - ((0 : Nat) : Int) = (items.size : Int) - 1 := by omega
  have apart : Builtin.List.listSameRef (.ref S) (.ref it) = false := by simp [Builtin.List.listSameRef, n2]
  unfold Builtin.List.listExtendWith
  refine wpAny_bind (wpAny_typeOf ty ?_)
  rw [if_neg (by rw [apart]; decide)]
  refine wpAny_bind (wpAny_pyIter_revIter hit (wpAny_bind (wpAny_holding ?_)))
  unfold Builtin.List.listLengthHint
  refine wpAny_bind (wpAny_specialOf ty RT.nolen_lri ?_)
  show wpAny (model prog w) A.in1 (specialOf (Value.ref it) (Str.ofString "__length_hint__") >>= _) _ _ s
  refine wpAny_bind (wpAny_specialOf ty RT.hint_lri ?_)
  generalize hid : ("list_reverseiterator.__length_hint__" : String) = name
  wp_delta
  rw [show splitId name = some ("list_reverseiterator", "__length_hint__") by subst hid; decide +kernel]
  subst hid
  refine wpAny_bind (wpAny_isInstance (b := true) ty (by rw [isSubtype_type]; kernel_rfl) (wpAny_pure ?_))
  rw [if_neg (by decide)]
  refine wpAny_pure ⟨plainId_quiet PySem.F.plain_extend_loop _, codeAny_extend_loopS W hn S out res items.size 0 _ #[] c₀ rfl (Nat.zero_le _) ⟨Nat.zero_le _, by rw [e0]; exact hit, hl⟩ hS (ItemsOf.nil _) fun t acc' c' hm hS' hacc => ?_⟩
  rw [Moved.eq_with hm]
  refine k t.heap t.toks acc' c' (fun b o b1 b2 e => hm.heap b o (fun z => ?_) e) hS' hacc
  rcases List.mem_cons.mp z with z | z
  · exact b1 z
  · exact b2 (List.mem_singleton.mp z)
end
section
variable {prog : Program} {w : World} {A : Around} {E : Value → Shared → Prop} {s : Shared} {it l : Addr} {items : Array Value}
theorem rev_init {S : Addr} {R : Result → Shared → Prop} (hh : A.handled = none) (hit : s.heap.IsRevIter it l ((items.size : Int) - 1)) (hl : s.heap.IsList l items) (n1 : l ≠ it) (n2 : S ≠ it) (n3 : S ≠ l) (hn : items.size ≤ sizeLine)
    (hS : s.heap.get? S = some { cls := .type "list", data := .seq #[] })
    (k : ∀ h' tk acc' c', (∀ b o, b ≠ S → b ≠ it → s.heap.get? b = some o → h'.get? b = some o) → h'.get? S = some { cls := .type "list", dict := none, data := .seq acc' c', slots := #[] } → ItemsOf (fun i v => items[items.size - 1 - i]? = some v) acc' items.size → R (.ok (.ret .none)) { s with heap := h', toks := tk }) :
    wpAny (model prog w) A.in1 (Builtin.«list.__init__» ⟨[.ref S, .ref it], []⟩)
      (fun fin t => match fin with | .done f => R (.ok f) t | .again c' => c'.quiet = true ∧ codeAny (model prog w) A c' R t) (fun e t => R (.error e) t) s := by
  show wpAny (model prog w) A.in1 (do let old ← Builtin.List.listItems (.ref S); Builtin.List.listUpdate (.ref S) (fun _ => #[]); letGo old.toList.reverse; Builtin.List.listExtendWith (.ref S) (.ref it) .none) _ _ s
  refine wpAny_bind ?_; unfold Builtin.List.listItems; refine wpAny_bind (wpAny_seqItems hS rfl (wpAny_pure ?_))
  show wpAny (model prog w) A.in1 (updateSeq S (fun _ => #[]) >>= fun _ => letGo (#[] : Array Value).toList.reverse >>= fun _ => Builtin.List.listExtendWith (.ref S) (.ref it) .none) _ _ s
  refine wpAny_bind (wpAny_updateSeq hS rfl (wpAny_bind (wpAny_letGo ?_)))
  have g2 := Heap.get?_update_self (Obj.mapSeq (fun _ => (#[] : Array Value))) hS rfl
  have rest : ∀ b o, b ≠ S → s.heap.get? b = some o → (s.heap.update S (Obj.mapSeq (fun _ => (#[] : Array Value)))).get? b = some o := fun b o hb e => (Heap.get?_update_other _ _ (Ne.symm hb)).trans e
  have hit2 : (s.heap.update S (Obj.mapSeq (fun _ => (#[] : Array Value)))).IsRevIter it l ((items.size : Int) - 1) := hit.at fun o e => rest _ o n2.symm e
  have hl2 : (s.heap.update S (Obj.mapSeq (fun _ => (#[] : Array Value)))).IsList l items := hl.at fun o e => rest _ o n3.symm e
  exact rev_ext (s := { s with heap := s.heap.update S (Obj.mapSeq (fun _ => (#[] : Array Value))) }) .none hh hit2 hl2 n1 n2 n3 hn g2 fun h' tk acc' c' hk hS' hacc => k h' tk acc' c' (fun b o b1 b2 e => hk b o b1 b2 (rest b o b1 e)) hS' hacc
theorem rev_list {Q : Value → Shared → Prop} (hh : A.handled = none) (hit : s.heap.IsRevIter it l ((items.size : Int) - 1)) (hl : s.heap.IsList l items) (n1 : l ≠ it) (hn : items.size ≤ sizeLine)
    (k : ∀ h' tk acc' c', (∀ b o, b ≠ it → s.heap.get? b = some o → h'.get? b = some o) → h'.get? s.heap.objs.size = some { cls := .type "list", dict := none, data := .seq acc' c', slots := #[] } → ItemsOf (fun i v => items[items.size - 1 - i]? = some v) acc' items.size → Q (.ref s.heap.objs.size) { s with heap := h', toks := tk }) :
    wpAny (model prog w) A (call (.type "list") [.ref it]) Q E s := by
  have n2 : s.heap.objs.size ≠ it := Nat.ne_of_gt (let ⟨_, e, _⟩ := hit; Heap.lt_size e)
  have n3 : s.heap.objs.size ≠ l := Nat.ne_of_gt (let ⟨_, e, _⟩ := hl; Heap.lt_size e)
  refine callType_codes (Q₁ := fun v t => v = .ref s.heap.objs.size ∧ t = { s with heap := s.heap.push { cls := .type "list", data := .seq #[] } }) PySem.F.called_list (PySem.F.typeCall_list_1 _) PySem.F.entry_list_init (code_list_new _ ⟨rfl, rfl⟩) fun v t h => ?_
  obtain ⟨rfl, rfl⟩ := h
  have g : (s.heap.push { cls := .type "list", data := .seq #[] }).get? s.heap.objs.size = some { cls := .type "list", data := .seq #[] } := Heap.get?_push_size _ rfl
  refine ⟨⟨_, g, rfl⟩, PySem.F.args_list_init_2 _ _, rev_init (A := A.in1) (s := { s with heap := s.heap.push { cls := .type "list", data := .seq #[] } }) hh (hit.at fun o e => Heap.get?_push_of_some _ e) (hl.push _) n1 n2 n3 hn g fun h' tk acc' c' hk hS' hacc => ?_⟩
  exact ⟨rfl, k h' tk acc' c' (fun b o hb e => hk b o (Nat.ne_of_lt (Heap.lt_size e)) hb (Heap.get?_push_of_some _ e)) hS' hacc⟩
end
section
variable {X : Cx}
def tListRev (K : PySem.W.Frag) (te : TE) : TE := fun σ H Q => te σ H fun v H1 => ∃ (a : Addr) (xs : List V), v = .ref a ∧ SqL K H1 a xs ∧ ∀ q, H1 q = none → Q (.ref q) (upd H1 q (.lst xs.reverse))
theorem pe_listRev {e : Expr} {te : TE} {p p2 pos pos2 : Pos} (hg : Gl X "list") (hm : X.mg "list" = none) (hg2 : Gl X "reversed") (hm2 : X.mg "reversed" = none) (he : PE X e te) (hc : X.calm = true := by rfl)
    (s1 : starEach [e] X.env = (false, eval e X.env) :: starEach [] X.env := by rfl)
    (s2 : starEach [.Call (.Name "reversed" p2) [e] [] pos2] X.env = (false, eval (.Call (.Name "reversed" p2) [e] [] pos2) X.env) :: starEach [] X.env := by rfl) :
    PE X (.Call (.Name "list" p) [.Call (.Name "reversed" p2) [e] [] pos2] [] pos) (tListRev X.K te) := by
  constructor; intro pins s σ H Q I h
  refine Call_ (ld_blt I hg hm boot_list (PyProof.Rows.callWith_type1 (args_cons (Call_ (ld_blt I hg2 hm2 PyProof.Rows.boot_reversed (PyProof.Rows.callWith_type1 (args_cons (thn (he.run pins s σ H _ I h) fun u t ⟨v, H1, I1, r1, q1⟩ => args_nil ?_) s1) s1 rfl))) s2) s2 rfl))
  obtain ⟨a, xs, ev, hq, q⟩ := q1; subst ev
  obtain rfl : u = Value.ref a := r1
  obtain ⟨its, rv, pl, hz⟩ := I1.list hq
  refine call_reversed_list pl.isList ?_; refine args_nil ?_
  obtain ⟨ol, hol, _⟩ := id pl.isList
  have n1 : a ≠ t.heap.objs.size := Nat.ne_of_lt (Heap.lt_size hol)
  have hn : its.toArray.size ≤ sizeLine := by rw [List.size_toArray, ← rv.length]; exact hz
  refine rev_list (s := { t with heap := t.heap.push (revObj a ((its.toArray.size : Int) - 1)) }) (I1.ok.hd hc) ⟨_, Heap.get?_push_size _ rfl, rfl, rfl⟩ (pl.isList.push _) n1 hn fun h' tk acc c' hk hS hi => ?_
  have sz : (t.heap.push (revObj a ((its.toArray.size : Int) - 1))).objs.size = t.heap.objs.size + 1 := by simp [Heap.push]
  have keep : ∀ b o, t.heap.get? b = some o → h'.get? b = some o := fun b o e => hk b o (Nat.ne_of_lt (Heap.lt_size e)) (Heap.get?_push_of_some _ e)
  refine ⟨.ref (t.heap.push (revObj a ((its.toArray.size : Int) - 1))).objs.size, upd H1 _ (.lst xs.reverse), I1.laid (t' := tk) keep (a := (t.heap.push (revObj a ((its.toArray.size : Int) - 1))).objs.size) (by rw [sz]; exact Nat.le_succ _) (show ObjOk X.prog X.w _ _ _ (.lst xs.reverse) from ⟨by rw [List.length_reverse]; exact hz, acc.toList, c', RT.vals_rev rv hi, ?_⟩), rfl, q _ (I1.hok.fresh (by rw [sz]; exact Nat.le_succ _))⟩
  rw [hS]
def lrK (K : PySem.W.Frag) (Q : VK) : V → Hp → Prop := fun v H1 => ∃ (a : Addr) (xs : List V), v = .ref a ∧ SqL K H1 a xs ∧ ∀ q, H1 q = none → Q (.ref q) (upd H1 q (.lst xs.reverse))
theorem x_listRev {K : PySem.W.Frag} {te : TE} {σ : L2.St} {H : Hp} {Q : VK} (h : te σ H (lrK K Q)) : tListRev K te σ H Q := h
theorem x_lrK {K : PySem.W.Frag} {H : Hp} {a : Addr} {xs : List V} {Q : VK} (h : SqL K H a xs) (q : New H Q (.lst xs.reverse)) : lrK K Q (.ref a) H := ⟨a, xs, rfl, h, q.mk⟩
end
/-! sorted pairs of numbers -/
theorem perm_sorted_eq {α : Type} {r : α → α → Prop} (anti : ∀ a b, r a b → r b a → a = b) : ∀ {l m : List α}, l.Perm m → l.Pairwise r → m.Pairwise r → l = m
  | [], m, h, _, _ => (List.nil_perm.mp h).symm
  | a :: l, [], h, _, _ => absurd h.symm (by intro z; exact absurd (List.nil_perm.mp z) (by simp))
  | a :: l, b :: m, h, h1, h2 => by
    have h1' := List.pairwise_cons.mp h1
    have h2' := List.pairwise_cons.mp h2
    have e : a = b := by
      rcases List.mem_cons.mp (h.mem_iff.mp List.mem_cons_self) with e | e
      · exact e
      rcases List.mem_cons.mp (h.symm.mem_iff.mp List.mem_cons_self) with e2 | e2
      · exact e2.symm
      · exact anti a b (h1'.1 b e2) (h2'.1 a e)
    subst e
    rw [perm_sorted_eq anti (List.Perm.cons_inv h) h1'.2 h2'.2]
def leP (a b : Int × Int) : Bool := !SrtO.lexB b a
def sortP (l : List (Int × Int)) : List (Int × Int) := l.mergeSort leP
theorem leP_iff {a b : Int × Int} : leP a b = true ↔ a.1 < b.1 ∨ (a.1 = b.1 ∧ a.2 ≤ b.2) := by
  unfold leP
  rw [Bool.not_eq_true', SrtO.lexB_no]
  omega
theorem sortP_pw (l : List (Int × Int)) : (sortP l).Pairwise fun a b => leP a b = true :=
  List.pairwise_mergeSort (fun a b c h1 h2 => by rw [leP_iff] at h1 h2 ⊢; omega) (fun a b => by
    rw [Bool.or_eq_true, leP_iff, leP_iff]; omega) l
theorem sortP_eq {ys l : List (Int × Int)} (hp : ys.Perm l) (hs : ys.Pairwise fun a b => leP a b = true) : ys = sortP l :=
  perm_sorted_eq (fun a b h1 h2 => by
    rw [leP_iff] at h1 h2
    exact Prod.ext (by omega) (by omega)) (hp.trans (List.mergeSort_perm l leP).symm) hs (sortP_pw l)
theorem sortP_perm (l : List (Int × Int)) : (sortP l).Perm l := List.mergeSort_perm l leP
/-- a list of tuples of two numbers each -/
def PairL (H : Hp) (xs : List V) (l : List (Int × Int)) : Prop := xs.length = l.length ∧ ∀ (i : Nat) x e, xs[i]? = some x → l[i]? = some e → ∃ t, x = .ref t ∧ H t = some (.tup [.int e.1, .int e.2])
theorem PairL.mono {H H' : Hp} {xs : List V} {l : List (Int × Int)} (s : TupS H H') (h : PairL H xs l) : PairL H' xs l := ⟨h.1, fun i x e h1 h2 => by
  obtain ⟨t, q, h⟩ := h.2 i x e h1 h2
  exact ⟨t, q, s _ _ h⟩⟩
theorem PairL.nil {H : Hp} : PairL H [] [] := ⟨rfl, fun i x e h _ => by simp at h⟩
theorem PairL.snoc {H : Hp} {xs : List V} {l : List (Int × Int)} {v : V} {e : Int × Int} (h : PairL H xs l) (hv : ∃ t, v = .ref t ∧ H t = some (.tup [.int e.1, .int e.2])) : PairL H (xs ++ [v]) (l ++ [e]) := by
  refine ⟨by simp [h.1], fun i x y h1 h2 => ?_⟩
  by_cases hi : i < xs.length
  · rw [List.getElem?_append_left hi] at h1
    rw [List.getElem?_append_left (h.1 ▸ hi)] at h2
    exact h.2 i x y h1 h2
  · have e1 : i = xs.length := by
      have := (List.getElem?_eq_some_iff.mp h1).1
      simp at this
      omega
    subst e1
    rw [List.getElem?_append_right (Nat.le_refl _)] at h1
    rw [h.1, List.getElem?_append_right (Nat.le_refl _)] at h2
    simp at h1 h2
    subst h1 h2
    exact hv
def pairV (H : Hp) : V → Int × Int
  | .ref t => match H t with
    | some (.tup [.int i, .int j]) => (i, j)
    | _ => (0, 0)
  | _ => (0, 0)
theorem pairV_ref {H : Hp} {t : Addr} {i j : Int} (h : H t = some (.tup [.int i, .int j])) : pairV H (.ref t) = (i, j) := by
  unfold pairV
  simp only [h]
theorem PairL.map {H : Hp} {xs : List V} {l : List (Int × Int)} (h : PairL H xs l) : xs.map (pairV H) = l := by
  refine List.ext_getElem? fun i => ?_
  rw [List.getElem?_map]
  cases e1 : xs[i]? with
  | none =>
    have := h.1
    rw [List.getElem?_eq_none_iff] at e1
    rw [List.getElem?_eq_none (by omega)]
    rfl
  | some x =>
    have hl := (List.getElem?_eq_some_iff.mp e1).1
    obtain ⟨e, e2⟩ : ∃ e, l[i]? = some e := ⟨_, List.getElem?_eq_getElem (by have := h.1; omega)⟩
    obtain ⟨t, rfl, ht⟩ := h.2 i x e e1 e2
    rw [e2, Option.map_some, pairV_ref ht]
theorem PairL.mem {H : Hp} {xs : List V} {l : List (Int × Int)} (h : PairL H xs l) {x : V} (hx : x ∈ xs) : ∃ t, x = .ref t ∧ H t = some (.tup [.int (pairV H x).1, .int (pairV H x).2]) := by
  obtain ⟨i, e1⟩ := List.mem_iff_getElem?.mp hx
  have hl := (List.getElem?_eq_some_iff.mp e1).1
  obtain ⟨e, e2⟩ : ∃ e, l[i]? = some e := ⟨_, List.getElem?_eq_getElem (by have := h.1; omega)⟩
  obtain ⟨t, rfl, ht⟩ := h.2 i x e e1 e2
  exact ⟨t, rfl, by rw [pairV_ref ht]; exact ht⟩
/-! sorted tuples of whole numbers, fewer than 64 -/
theorem code_cons {B d e : Int} {r q : List Int} (hl : r.length = q.length) (h1 : TS.Bd B (d :: r)) (h2 : TS.Bd B (e :: q)) (h : TS.code B (d :: r) ≤ TS.code B (e :: q)) : d < e ∨ (d = e ∧ TS.code B r ≤ TS.code B q) := by
  rcases Int.lt_trichotomy d e with z | z | z
  · exact .inl z
  · refine .inr ⟨z, ?_⟩
    subst z
    by_cases y : TS.code B q < TS.code B r
    · have := (TS.code_same (B := B) (d := d) (r := q) (q := r) hl.symm).mpr y
      omega
    · exact Int.not_lt.mp y
  · have := TS.code_lt (B := B) hl.symm h2.tail h1.tail z
    omega
/-- a list of tuples of whole numbers -/
def TupL (H : Hp) (xs : List V) (ls : List (List Int)) : Prop := xs.length = ls.length ∧ ∀ (i : Nat) x e, xs[i]? = some x → ls[i]? = some e → ∃ t, x = .ref t ∧ H t = some (.tup (e.map V.int))
theorem TupL.mono {H H' : Hp} {xs : List V} {l : List (List Int)} (s : TupS H H') (h : TupL H xs l) : TupL H' xs l := ⟨h.1, fun i x e h1 h2 => by
  obtain ⟨t, q, h⟩ := h.2 i x e h1 h2
  exact ⟨t, q, s _ _ h⟩⟩
theorem TupL.nil {H : Hp} : TupL H [] [] := ⟨rfl, fun i x e h _ => by simp at h⟩
theorem TupL.snoc {H : Hp} {xs : List V} {l : List (List Int)} {v : V} {e : List Int} (h : TupL H xs l) (hv : ∃ t, v = .ref t ∧ H t = some (.tup (e.map V.int))) : TupL H (xs ++ [v]) (l ++ [e]) := by
  refine ⟨by simp [h.1], fun i x y h1 h2 => ?_⟩
  by_cases hi : i < xs.length
  · rw [List.getElem?_append_left hi] at h1
    rw [List.getElem?_append_left (h.1 ▸ hi)] at h2
    exact h.2 i x y h1 h2
  · have e1 : i = xs.length := by
      have := (List.getElem?_eq_some_iff.mp h1).1
      simp at this
      omega
    subst e1
    rw [List.getElem?_append_right (Nat.le_refl _)] at h1
    rw [h.1, List.getElem?_append_right (Nat.le_refl _)] at h2
    simp at h1 h2
    subst h1 h2
    exact hv
theorem TupL.take {H : Hp} {ws : List V} {is : List (List Int)} (h : TupL H ws is) (m : Nat) : TupL H (ws.take m) (is.take m) := ⟨by rw [List.length_take, List.length_take, h.1], fun i x e h1 h2 => by
  rw [List.getElem?_take] at h1 h2
  split at h1
  · rename_i hi
    rw [if_pos hi] at h2
    exact h.2 i x e h1 h2
  · cases h1⟩
def vInt : V → Int
  | .int n => n
  | _ => 0
theorem vInt_map (e : List Int) : (e.map V.int).map vInt = e := by
  rw [List.map_map]
  exact List.map_id'' (fun _ => rfl) e
def tupV (H : Hp) : V → List Int
  | .ref t => match H t with
    | some (.tup vs) => vs.map vInt
    | _ => []
  | _ => []
theorem tupV_ref {H : Hp} {t : Addr} {e : List Int} (h : H t = some (.tup (e.map V.int))) : tupV H (.ref t) = e := by
  unfold tupV
  simp only [h]
  exact vInt_map e
theorem TupL.get {H : Hp} {xs : List V} {l : List (List Int)} (h : TupL H xs l) {i : Nat} {x : V} (hi : xs[i]? = some x) : ∃ e t, l[i]? = some e ∧ x = .ref t ∧ H t = some (.tup (e.map V.int)) := by
  have hl := (List.getElem?_eq_some_iff.mp hi).1
  obtain ⟨e, e2⟩ : ∃ e, l[i]? = some e := ⟨_, List.getElem?_eq_getElem (by have := h.1; omega)⟩
  obtain ⟨t, rfl, ht⟩ := h.2 i x e hi e2
  exact ⟨e, t, e2, rfl, ht⟩
theorem TupL.map {H : Hp} {xs : List V} {l : List (List Int)} (h : TupL H xs l) : xs.map (tupV H) = l := by
  refine List.ext_getElem? fun i => ?_
  rw [List.getElem?_map]
  cases e1 : xs[i]? with
  | none =>
    have := h.1
    rw [List.getElem?_eq_none_iff] at e1
    rw [List.getElem?_eq_none (by omega)]
    rfl
  | some x =>
    obtain ⟨e, t, e2, rfl, ht⟩ := h.get e1
    rw [e2, Option.map_some, tupV_ref ht]
theorem TupL.mem {H : Hp} {xs : List V} {l : List (List Int)} (h : TupL H xs l) {x : V} (hx : x ∈ xs) : tupV H x ∈ l ∧ ∃ t, x = .ref t ∧ H t = some (.tup ((tupV H x).map V.int)) := by
  obtain ⟨i, e1⟩ := List.mem_iff_getElem?.mp hx
  obtain ⟨e, t, e2, rfl, ht⟩ := h.get e1
  rw [tupV_ref ht]
  exact ⟨List.mem_of_getElem? e2, t, rfl, ht⟩
theorem x_sortT {K : PySem.W.Frag} {H : Hp} {a : Addr} {xs : List V} {ls : List (List Int)} {d : Nat} {B : Int} {Q : VK} (h : SqL K H a xs) (hx : TupL H xs ls) (hn : ls.length < 64) (hb : ∀ e ∈ ls, e.length = d ∧ TS.Bd B e)
    (q : ∀ p ys ls' H', H p = none → Same H H' → H' p = some (.lst ys) → TupL H' ys ls' → ls'.Perm ls → ls'.Pairwise (fun a b => TS.code B a ≤ TS.code B b) → Q (.ref p) H') : rSortU K d B [.ref a] H Q := by
  have tu : ∀ x ∈ xs, TupI K H x (tupV H x) := fun x hm => by
    obtain ⟨_, t, e, ht⟩ := hx.mem hm
    exact ⟨t, e, SqT.of ht⟩
  refine ⟨a, xs, rfl, h, by rw [hx.1]; exact hn, fun x hm => ?_, fun ys p hp hs hpn => ?_⟩
  · obtain ⟨hi, t, e, ht⟩ := hx.mem hm
    exact ⟨tupV H x, ⟨t, e, SqT.of ht⟩, hb _ hi⟩
  · refine q p ys (ys.map (tupV H)) _ hpn (same_upd hpn) upd_same ⟨by rw [List.length_map], fun i x e h1 h2 => ?_⟩ ?_ ?_
    · rw [List.getElem?_map, h1] at h2
      simp at h2
      subst h2
      obtain ⟨_, t, e1, ht⟩ := hx.mem (hp.mem_iff.mp (List.mem_of_getElem? h1))
      exact ⟨t, e1, same_upd hpn _ _ ht⟩
    · rw [← hx.map]
      exact hp.map _
    · refine List.pairwise_map.mpr (List.Pairwise.imp_of_mem (fun {x y} hx' hy' z => ?_) hs)
      exact z _ _ (tu x (hp.mem_iff.mp hx')) (tu y (hp.mem_iff.mp hy'))
/-- sorted(d), d a dict of fewer than 64 numbers -/
def rSDI : List V → Hp → VK → Prop := fun xs H Q => ∃ (a : Addr) (kvs : List (L2.Key × V)) (ks : List Int), xs = [.ref a] ∧ Rd H a (.dK kvs) ∧ kvs.map (·.1) = ks.map Sum.inl ∧ ks.length < 64 ∧
    ∀ (ys : List Int) (p : Addr), ys.Perm ks → ys.Pairwise (· ≤ ·) → H p = none → Q (.ref p) (upd H p (.lst (ys.map V.int)))
def uSorted (K : PySem.W.Frag) : List V → Hp → VK → Prop := fun xs H Q => rSorted K xs H Q ∨ (rSortedPO K xs H Q ∨ (rSortedI K xs H Q ∨ rSDI xs H Q))
theorem cr_usorted {X : Cx} (hc : X.calm = true := by rfl) : CallR X (.builtin "sorted") (uSorted X.K) := cr_sorted.or (cr_sortedPO.or (cr_sortedI.or (call_sortedDI hc)))
theorem x_sortP {K : PySem.W.Frag} {H : Hp} {a : Addr} {xs : List V} {l : List (Int × Int)} {Q : VK} (h : SqL K H a xs) (hx : PairL H xs l) (q : ∀ p ys H', H p = none → Same H H' → H' p = some (.lst ys) → PairL H' ys (sortP l) → Q (.ref p) H') : uSorted K [.ref a] H Q := by
  refine .inr (.inl ⟨a, xs, pairV H, rfl, h, fun x m => hx.mem m, fun ys p hs hb hp => ?_⟩)
  have hm : ys.map (pairV H) = sortP l := sortP_eq (by rw [← hx.map]; exact hb.perm.map _) (List.pairwise_map.mpr (hs.imp fun {a b} z => by
    unfold leP
    rw [show SrtO.lexB (pairV H b) (pairV H a) = false from z]
    rfl))
  refine q p ys _ hp (same_upd hp) upd_same ⟨by rw [← hm, List.length_map], fun i x e h1 h2 => ?_⟩
  rw [← hm, List.getElem?_map, h1] at h2
  simp at h2
  subst h2
  obtain ⟨t, e1, ht⟩ := hx.mem (hb.perm.mem_iff.mp (List.mem_of_getElem? h1))
  exact ⟨t, e1, same_upd hp _ _ ht⟩
/-! sorted numbers -/
def sortZ (l : List Int) : List Int := l.mergeSort fun a b => decide (a ≤ b)
theorem sortZ_pw (l : List Int) : (sortZ l).Pairwise (· ≤ ·) :=
  (List.pairwise_mergeSort (le := fun a b : Int => decide (a ≤ b)) (fun a b c h1 h2 => by simp only [decide_eq_true_eq] at h1 h2 ⊢; omega) (fun a b => by
    simp only [Bool.or_eq_true, decide_eq_true_eq]; omega) l).imp fun h => of_decide_eq_true h
theorem sortZ_perm (l : List Int) : (sortZ l).Perm l := List.mergeSort_perm l _
theorem sortZ_eq {ys l : List Int} (hp : ys.Perm l) (hs : ys.Pairwise (· ≤ ·)) : ys = sortZ l :=
  perm_sorted_eq (fun a b h1 h2 => Int.le_antisymm h1 h2) (hp.trans (sortZ_perm l).symm) hs (sortZ_pw l)
theorem x_sortI {K : PySem.W.Frag} {H : Hp} {a : Addr} {ns : List Int} {Q : VK} (h : SqL K H a (ns.map V.int)) (q : ∀ p H', H p = none → Same H H' → H' p = some (.lst ((sortZ ns).map V.int)) → Q (.ref p) H') : uSorted K [.ref a] H Q :=
  .inr (.inr (.inl ⟨a, ns, rfl, h, fun ys p hp hs hn => by rw [sortZ_eq hp hs]; exact q p _ hn (same_upd hn) upd_same⟩))
theorem x_sortD {K : PySem.W.Frag} {H : Hp} {a : Addr} {kvs : List (L2.Key × V)} {ks : List Int} {Q : VK} (h : H a = some (.dK kvs)) (hk : kvs.map (·.1) = ks.map Sum.inl) (hl : ks.length < 64) (q : ∀ p H', H p = none → Same H H' → H' p = some (.lst ((sortZ ks).map V.int)) → Q (.ref p) H') : uSorted K [.ref a] H Q :=
  .inr (.inr (.inr ⟨a, kvs, ks, rfl, .inl h, hk, hl, fun ys p hp hs hn => by rw [sortZ_eq hp hs]; exact q p _ hn (same_upd hn) upd_same⟩))
/-! a comprehension over the keys of a dict -/
section
variable {σ : L2.St} {H : Hp} {g : TG} {tt : TT} {te td : TE} {vs : List Nat} {a : Addr} {Q : VK} {kvs : List (L2.Key × V)} {od : Obj}
def lcKy (g : TG) (tt : TT) (te : TE) (vs : List Nat) (σ : L2.St) (Q : VK) : V → Hp → Prop := fun x H1 => ∃ d o, x = .ref d ∧ ((∃ kvs, H1 d = some (.frz o (.dK kvs)) ∧ lcK (Itk d o kvs) g tt te vs σ Q H1) ∨ ∃ kvs, H1 d = some (.frz o (.dT kvs)) ∧ lcK (Itkt d o kvs) g tt te vs σ Q H1)
theorem x_lcKyK (hq : H a = some (.frz od (.dK kvs))) (A : Nat → List V → Hp → Prop) (hA : ∀ i acc H H', TupS H H' → A i acc H → A i acc H') (hn : kvs.length < sizeLine) (h0 : A 0 [] H)
    (hs : ∀ i k v acc H', kvs[i]? = some (k, v) → Same H H' → A i acc H' → LcTurn g tt te vs σ A i (kV k) acc H')
    (hd : ∀ p acc H', H p = none → Same H H' → H' p = some (.lst acc) → A kvs.length acc H' → Q (.ref p) H') : lcKy g tt te vs σ Q (.ref a) H :=
  ⟨a, od, rfl, .inl ⟨kvs, hq, lc_gen (fun i x => ∃ k v, kvs[i]? = some (k, v) ∧ x = kV k) A hA hn h0 (fun Pv Dr hP p0 ht hd => lc_it walk_keys Pv p0 (fun i H' _ p => hP i H' p _ _ hq) (fun i x H' H'' hi p y => by
    obtain ⟨rfl, k, v, e, rfl⟩ := y
    exact ht i _ _ ⟨k, v, e, rfl⟩ p) hd) (fun i x acc H' ⟨k, v, e, hx⟩ s ha => by rw [hx]; exact hs i k v acc H' e s ha) (fun i x ⟨k, v, e, _⟩ => (List.getElem?_eq_some_iff.mp e).1) hd⟩⟩
theorem x_lcDK (h : H a = some (.dK kvs)) (htd : ∀ (od : Obj) (Q' : VK), Q' (.ref a) (upd H a (.frz od (.dK kvs))) → td σ (upd H a (.frz od (.dK kvs))) Q') (A : Nat → List V → Hp → Prop) (hA : ∀ i acc H H', TupS H H' → A i acc H → A i acc H') (hn : kvs.length < sizeLine) (h0 : A 0 [] H)
    (hs : ∀ i k v acc H', kvs[i]? = some (k, v) → Off [a] H H' → (∃ od, H' a = some (.frz od (.dK kvs))) → A i acc H' → LcTurn g tt te vs σ A i (kV k) acc H')
    (hd : ∀ p acc H', H p = none → Same H H' → H' p = some (.lst acc) → A kvs.length acc H' → Q (.ref p) H') : tLockE (tLc (iKeys td) g tt te vs) σ H Q := by
  refine ⟨a, .dK kvs, h, trivial, fun od => htd od _ ?_⟩
  have tu : TupS H (upd H a (.frz od (.dK kvs))) := TupS.upd h (fun _ z => by cases z)
  have key := x_lcKyK (g := g) (tt := tt) (te := te) (vs := vs) (σ := σ) (Q := fun v H' => H' a = some (.frz od (.dK kvs)) ∧ Q v (upd H' a (.dK kvs))) (H := upd H a (.frz od (.dK kvs))) (od := od) upd_same A hA hn (hA _ _ _ _ tu h0) (fun i k v acc H' e s ha => hs i k v acc H' e (fun b o nb eb => s b o (by rw [upd_ne (fun z => nb (by rw [z]; exact List.mem_singleton.mpr rfl))]; exact eb)) ⟨od, s _ _ upd_same⟩ ha) (fun p acc H' hp s hn ha => by
  refine ⟨s _ _ upd_same, ?_⟩
  have hpa : p ≠ a := fun z => by
    rw [z, upd_same] at hp
    cases hp
  rw [upd_ne hpa] at hp
  refine hd p acc _ hp (fun b o e => ?_) (by rw [upd_ne hpa]; exact hn) (hA _ _ _ _ (TupS.upd (s _ _ upd_same) (fun _ z => by cases z)) ha)
  by_cases hb : b = a
  · rw [hb, h] at e
    rw [hb, upd_same]
    exact e
  · rw [upd_ne hb]
    exact s b o (by rw [upd_ne hb]; exact e))
  exact key
theorem x_dgIf {n : Int} {v : V} (h : ∃ od, H a = some (.frz od (.dK kvs))) (hv : valV kvs (.inl n) = some v) (q : Q v H) : dgK (.ref a) Q (.int n) H := by
  obtain ⟨od, h⟩ := h
  exact ⟨a, v, rfl, .inl ⟨kvs, .inl n, .inr ⟨od, h⟩, rfl, by rw [hv]⟩, q⟩
end
/-! a loop over the values of a dict, which is locked meanwhile -/
section
variable {σ : L2.St} {H : Hp} {g : TG} {tb : TS} {D : Ends} {td : TE} {a : Addr} {kvs : List (L2.Key × V)}
def lkD (D : Ends) (a : Addr) (od : Obj) (kvs : List (L2.Key × V)) : Ends := ⟨fun σ' H' => H' a = some (.frz od (.dK kvs)) ∧ D.nx σ' (upd H' a (.dK kvs)), fun v H' => H' a = some (.frz od (.dK kvs)) ∧ D.rt v (upd H' a (.dK kvs)), fun σ' H' => H' a = some (.frz od (.dK kvs)) ∧ D.bk σ' (upd H' a (.dK kvs)), fun σ' H' => H' a = some (.frz od (.dK kvs)) ∧ D.ct σ' (upd H' a (.dK kvs))⟩
theorem x_lkV (h : H a = some (.dK kvs)) (htd : ∀ (od : Obj) (Q' : VK), Q' (.ref a) (upd H a (.frz od (.dK kvs))) → td σ (upd H a (.frz od (.dK kvs))) Q')
    (hl : ∀ od, ∃ Pv : Nat → L2.St → Hp → Prop, Pv 0 σ (upd H a (.frz od (.dK kvs))) ∧ (∀ i σ' H', Pv i σ' H' → H' a = some (.frz od (.dK kvs))) ∧
      (∀ i k x σ' H', kvs[i]? = some (k, x) → Pv i σ' H' → g x σ' H' fun σ2 H2 => tb { lkD D a od kvs with nx := Pv (i + 1), ct := Pv (i + 1), bk := (lkD D a od kvs).nx } σ2 H2) ∧
      (∀ σ' H', Pv kvs.length σ' H' → D.nx σ' (upd H' a (.dK kvs)))) : tLock (tFor (iVals td) g tb) D σ H := by
  refine ⟨a, .dK kvs, h, trivial, fun od => ?_⟩
  obtain ⟨Pv, h0, hk, hs, hd⟩ := hl od
  refine htd od _ ⟨a, od, kvs, rfl, upd_same, fun i m σ H => m = kvs.length - i ∧ i ≤ kvs.length ∧ Pv i σ H, ⟨kvs.length, rfl, Nat.zero_le _, h0⟩, ?_⟩
  rintro i m σ H ⟨rfl, hi, p⟩
  have q := hk i σ H p
  by_cases hlt : i < kvs.length
  · refine .inr ⟨⟨q, hlt⟩, Pv (i + 1), fun σ' H' p' => ⟨kvs.length - (i + 1), by omega, rfl, hlt, p'⟩, fun v H' y => ?_⟩
    obtain ⟨rfl, k, e⟩ := y
    exact hs i k v σ H' e p
  · have e : i = kvs.length := by omega
    subst e
    exact .inl ⟨⟨q, Nat.le_refl _⟩, q, hd σ H p⟩
end
/-! min of a list of pairs of numbers -/
section
variable {prog : Program} {w : World} {A : Around} {R : Result → Shared → Prop} {I : Addr} {fp wr : List Addr} {n : Nat} {P : Nat → Value → Prop} {St : Nat → Heap → Prop}
/-- what stays but for the walk's own and the list at S -/
def KeepsB (wr : List Addr) (S : Addr) (h0 h : Heap) : Prop := ∀ b o, b ∉ wr → b ≠ S → h0.get? b = some o → h.get? b = some o
theorem KeepsB.more {S : Addr} {h0 h h2 : Heap} (a : KeepsB wr S h0 h) (k : ∀ b o, b ∉ wr → h.get? b = some o → h2.get? b = some o) : KeepsB wr S h0 h2 := fun b o n1 n2 e => k b o n1 (a b o n1 n2 e)
theorem KeepsB.put {S : Addr} {h0 h : Heap} {f : Obj → Obj} (a : KeepsB wr S h0 h) : KeepsB wr S h0 (h.update S f) := fun b o n1 n2 e => (Heap.get?_update_other _ _ (Ne.symm n2)).trans (a b o n1 n2 e)
theorem min_turns (W : Walks prog w A.in1 I fp wr n P St) (bt : Nat → Nat → Bool) (S : Addr) (far : S ∉ fp) (kw : List (Str × Value)) (h0 : Heap)
    (less : ∀ (t : Shared) (i j : Nat) (x y : Value) (Q E : Value → Shared → Prop), KeepsB wr S h0 t.heap → P i x → P j y → Q (.bool (bt i j)) t → wpAny (model prog w) A.in1 (richCompare .Lt x y) Q E t) :
    ∀ (m j : Nat) (s : Shared) (best : Value) (c : Nat), n - (j + 1) = m → j + 1 ≤ n → St (j + 1) s.heap → P (argBest bt j) best → KeepsB wr S h0 s.heap → s.heap.get? S = some { cls := .type "list", dict := none, data := .seq #[best, best] c, slots := #[] } →
      (∀ v h' tk, P (argBest bt (n - 1)) v → KeepsB wr S h0 h' → R (.ok (.ret v)) { s with heap := h', toks := tk }) → codeAny (model prog w) A (.builtin "min.loop" ⟨[.ref I, .none, .ref S], kw⟩) R s := by
  have farw : S ∉ wr := fun h => far (W.sub _ h)
  have nm : (toString "min" ++ toString ".loop" : String) = "min.loop" := by decide
  intro m; induction m with
  | zero =>
    intro j s best c hm hj hst hb kp hS fin
    have hin : j + 1 = n := by omega
    refine codeAny_builtin PySem.F.entry_min_loop ?_; rw [Around.under_plainId PySem.F.plain_min_loop _]
    show wpAny _ A.in1 (seqItems? (Value.ref S) >>= _) _ _ s
    refine wpAny_bind (wpAny_seqItems hS rfl ?_); show wpAny _ A.in1 (tryCatch (pyNext (Value.ref I)) _ >>= _) _ _ s
    refine wpAny_bind (wpAny_tryCatch (W.done s _ _ (hin ▸ hst) fun h2 tk2 k2 => ?_)); have hS2 := k2 S _ farw hS
    show wpAny _ A.in1 (updateSeq S (fun _ => #[]) >>= _) _ _ { s with heap := h2, toks := tk2 }
    refine wpAny_bind ?_; refine wpAny_updateSeq hS2 rfl (wpAny_bind (wpAny_letGo (wpAny_pure (fin best _ tk2 ?_ (kp.more k2).put))))
    rw [← hin]; exact hb
  | succ m ih =>
    intro j s best c hm hj hst hb kp hS fin
    have hlt : j + 1 < n := by omega
    refine codeAny_builtin PySem.F.entry_min_loop ?_; rw [Around.under_plainId PySem.F.plain_min_loop _]
    show wpAny _ A.in1 (seqItems? (Value.ref S) >>= _) _ _ s
    refine wpAny_bind (wpAny_seqItems hS rfl ?_); show wpAny _ A.in1 (tryCatch (pyNext (Value.ref I)) _ >>= _) _ _ s
    refine wpAny_bind (wpAny_tryCatch (W.item (j + 1) s _ _ hlt hst fun x h2 tk2 hx hst2 k2 => ?_)); have hS2 := k2 S _ farw hS
    have kp2 := kp.more k2
    show wpAny _ A.in1 (tryCatch (holding [x, x] (richCompare .Lt x best >>= _)) _ >>= _) _ _ { s with heap := h2, toks := tk2 }
    refine wpAny_bind (wpAny_tryCatch (wpAny_holding (wpAny_bind (less _ (j + 1) (argBest bt j) x best _ _ kp2 hx hb ?_)))); refine wpAny_bind (wpAny_holding (wpAny_truthy_bool ?_))
    refine wpAny_bind (wpAny_letGo (wpAny_pure ?_)); cases he : bt (j + 1) (argBest bt j) with
    | true =>
      simp only [if_true]; refine wpAny_bind ?_; refine wpAny_updateSeq hS2 rfl (wpAny_bind (wpAny_letGo ?_)); rw [nm]
      refine wpAny_pure ⟨plainId_quiet PySem.F.plain_min_loop _, ih (j + 1) _ x _ (by omega) hlt (W.frame _ _ _ hst2 fun b hbf o e => ?_) ?_ kp2.put (Heap.get?_update_self _ hS2 rfl) fin⟩
      · exact (Heap.get?_update_other _ _ (fun z : S = b => far (z ▸ hbf))).trans e
      · simp only [argBest, he, if_true]; exact hx
    | false =>
      simp only [Bool.false_eq_true, if_false]; refine wpAny_bind (wpAny_letGo ?_); rw [nm]
      refine wpAny_pure ⟨plainId_quiet PySem.F.plain_min_loop _, ih (j + 1) _ best c (by omega) hlt hst2 ?_ kp2 hS2 fin⟩
      simp only [argBest, he, Bool.false_eq_true, if_false]; exact hb
theorem min_begin (W : Walks prog w A.in1 I fp wr n P St) (bt : Nat → Nat → Bool) (S : Addr) (far : S ∉ fp) (kw : List (Str × Value)) {s : Shared} {c : Nat}
    (less : ∀ (t : Shared) (i j : Nat) (x y : Value) (Q E : Value → Shared → Prop), KeepsB wr S s.heap t.heap → P i x → P j y → Q (.bool (bt i j)) t → wpAny (model prog w) A.in1 (richCompare .Lt x y) Q E t)
    (hn : 0 < n) (hst : St 0 s.heap) (hS : s.heap.get? S = some { cls := .type "list", dict := none, data := .seq #[] c, slots := #[] })
    (fin : ∀ v h' tk, P (argBest bt (n - 1)) v → KeepsB wr S s.heap h' → R (.ok (.ret v)) { s with heap := h', toks := tk }) : codeAny (model prog w) A (.builtin "min.loop" ⟨[.ref I, .none, .ref S], kw⟩) R s := by
  have farw : S ∉ wr := fun h => far (W.sub _ h)
  have nm : (toString "min" ++ toString ".loop" : String) = "min.loop" := by decide
  have kp : KeepsB wr S s.heap s.heap := fun _ _ _ _ e => e
  refine codeAny_builtin PySem.F.entry_min_loop ?_; rw [Around.under_plainId PySem.F.plain_min_loop _]
  show wpAny _ A.in1 (seqItems? (Value.ref S) >>= _) _ _ s
  refine wpAny_bind (wpAny_seqItems hS rfl ?_); show wpAny _ A.in1 (tryCatch (pyNext (Value.ref I)) _ >>= _) _ _ s
  refine wpAny_bind (wpAny_tryCatch (W.item 0 s _ _ hn hst fun x h2 tk2 hx hst2 k2 => ?_)); have hS2 := k2 S _ farw hS
  show wpAny _ A.in1 (updateSeq S (fun _ => #[x, x]) >>= _) _ _ { s with heap := h2, toks := tk2 }
  refine wpAny_bind ?_; refine wpAny_updateSeq hS2 rfl ?_; rw [nm]
  refine wpAny_pure ⟨plainId_quiet PySem.F.plain_min_loop _, min_turns W bt S far kw s.heap less _ 0 _ x _ rfl hn (W.frame _ _ _ hst2 fun b hbf o e => ?_) hx (kp.more k2).put (Heap.get?_update_self _ hS2 rfl) fin⟩
  exact (Heap.get?_update_other _ _ (fun z : S = b => far (z ▸ hbf))).trans e
end
section
variable {prog : Program} {w : World} {A : Around} {E : Value → Shared → Prop} {s : Shared}
/-- min(l), l a list, where comparing needs the heap -/
theorem min_listH {l : Addr} {items : Array Value} {Q : Value → Shared → Prop} (bt : Nat → Nat → Bool) (hh : A.handled = none) (hl : s.heap.IsList l items) (hn : 0 < items.size)
    (less : ∀ (t : Shared) (i j : Nat) (x y : Value) (Q E : Value → Shared → Prop), (∀ b o, s.heap.get? b = some o → t.heap.get? b = some o) → items[i]? = some x → items[j]? = some y → Q (.bool (bt i j)) t → wpAny (model prog w) A.in1 (richCompare .Lt x y) Q E t)
    (fin : ∀ v h' tk, items[argBest bt (items.size - 1)]? = some v → (∀ b o, s.heap.get? b = some o → h'.get? b = some o) → Q v { s with heap := h', toks := tk }) : wpAny (model prog w) A (call (.builtin "min") [.ref l]) Q E s := by
  have nm : (toString "min" ++ toString ".loop" : String) = "min.loop" := by decide
  have nl : l ≠ s.heap.objs.size := Nat.ne_of_lt (by obtain ⟨o, e, _⟩ := id hl; exact Heap.lt_size e)
  refine call_function_tree PySem.F.kind_min PySem.F.plain_min PySem.F.entry_min (PySem.F.args_min1 _) ?_
  show wpAny _ A.in1 (Builtin.Builtins.bindParams "min" ["key", "default"] 0 ⟨[], []⟩ >>= _) _ _ s
  refine wpAny_bind (wpAny_of_eq (show Builtin.Builtins.bindParams "min" ["key", "default"] 0 ⟨[], []⟩ = pure [none, none] from rfl) (wpAny_bind (wpAny_pure (wpAny_bind (wpAny_pyIter_list hl ?_)))))
  refine wpAny_bind (wpAny_newObj_type ?_); rw [nm]
  have hit : (s.heap.push { cls := .type "list_iterator", data := .fields #[.ref l, .int 0 0] }).IsListIter s.heap.objs.size l 0 := ⟨_, Heap.get?_push_size _ rfl, rfl, rfl⟩
  have sz : (s.heap.push { cls := .type "list_iterator", data := .fields #[.ref l, .int 0 0] }).objs.size = s.heap.objs.size + 1 := by simp [Heap.push]
  have old : ∀ {h : Heap}, KeepsB [s.heap.objs.size] (s.heap.push { cls := .type "list_iterator", data := .fields #[.ref l, .int 0 0] }).objs.size ((s.heap.push { cls := .type "list_iterator", data := .fields #[.ref l, .int 0 0] }).push { cls := .type "list", data := .seq #[] }) h → ∀ b o, s.heap.get? b = some o → h.get? b = some o := fun k b o e =>
    k b o (by rw [List.mem_singleton]; exact Nat.ne_of_lt (Heap.lt_size e)) (by rw [sz]; exact Nat.ne_of_lt (Nat.lt_succ_of_lt (Heap.lt_size e))) (Heap.get?_push_of_some _ (Heap.get?_push_of_some _ e))
  refine wpAny_pure ⟨plainId_quiet PySem.F.plain_min_loop _, min_begin (Walks.list (A := A.in1) hh s.heap.objs.size l nl items) bt (s.heap.push { cls := .type "list_iterator", data := .fields #[.ref l, .int 0 0] }).objs.size ?_ [] (fun t i j x y Q E k => less t i j x y Q E (old k)) hn
    ⟨hit.at fun o e => Heap.get?_push_of_some _ e, (hl.push _).push _⟩ (Heap.get?_push_size _ rfl) fun v h' tk hv k => fin v h' tk hv (old k)⟩
  rw [sz, List.mem_cons, List.mem_singleton, not_or]
  exact ⟨Nat.succ_ne_self _, fun z => by
    obtain ⟨o, e, _⟩ := id hl
    exact absurd (Heap.lt_size e) (by rw [← z]; exact Nat.not_lt.mpr (Nat.le_succ _))⟩
end
theorem argB_le (bt : Nat → Nat → Bool) : ∀ m, argBest bt m ≤ m
  | 0 => Nat.le_refl _
  | m + 1 => by
    show (if bt (m + 1) (argBest bt m) = true then m + 1 else argBest bt m) ≤ m + 1
    have := argB_le bt m
    split <;> omega
theorem argB_min (key : Nat → Int × Int) : ∀ m j, j ≤ m → leP (key (argBest (fun i j => SrtO.lexB (key i) (key j)) m)) (key j) = true
  | 0, j, h => by
    obtain rfl : j = 0 := by omega
    exact leP_iff.mpr (.inr ⟨rfl, Int.le_refl _⟩)
  | m + 1, j, h => by
    have ih := argB_min key m
    show leP (key (if SrtO.lexB (key (m + 1)) (key (argBest _ m)) = true then m + 1 else argBest _ m)) (key j) = true
    generalize argBest (fun i j => SrtO.lexB (key i) (key j)) m = b at ih ⊢
    have hc : SrtO.lexB (key (m + 1)) (key b) = !leP (key b) (key (m + 1)) := by unfold leP; rw [Bool.not_not]
    by_cases hj : j = m + 1
    · subst hj
      split
      · exact leP_iff.mpr (.inr ⟨rfl, Int.le_refl _⟩)
      · rename_i h2
        rw [hc] at h2
        simpa using h2
    · have h1 := leP_iff.mp (ih j (by omega))
      split
      · rename_i h2
        rw [hc] at h2
        have h3 : ¬ (leP (key b) (key (m + 1)) = true) := by simpa using h2
        rw [leP_iff] at h3
        rw [leP_iff]
        omega
      · exact leP_iff.mpr h1
theorem lexLt2 {a b c d : Int} : HT.lexLt [a, b] [c, d] = SrtO.lexB (a, b) (c, d) := by
  have h : SrtO.lexB (a, b) (c, d) = !leP (c, d) (a, b) := by unfold leP; rw [Bool.not_not]
  rw [h, HT.lexLt_cons, HT.lexLt_cons, HT.lexLt_nil_nil, Bool.eq_iff_iff, Bool.not_eq_true', ← Bool.not_eq_true, leP_iff]
  dsimp only
  by_cases h1 : a = c
  · rw [if_pos h1]
    by_cases h2 : b = d
    · rw [if_pos h2]
      simp only [Bool.false_eq_true, false_iff]
      omega
    · rw [if_neg h2, decide_eq_true_iff]
      omega
  · rw [if_neg h1, decide_eq_true_iff]
    omega
def rMinPO (K : PySem.W.Frag) : List V → Hp → VK → Prop := fun vs H Q => ∃ (a : Addr) (xs : List V) (k : V → Int × Int), vs = [V.ref a] ∧ SqL K H a xs ∧ xs ≠ [] ∧ (∀ x ∈ xs, ∃ t, x = V.ref t ∧ H t = some (.tup [.int (k x).1, .int (k x).2])) ∧ ∀ x ∈ xs, (∀ y ∈ xs, leP (k x) (k y) = true) → Q x H
theorem cr_minPO {X : Cx} (hu : X.A.units + 64 < cLine) (hc : X.calm = true) : CallR X (.builtin "min") (rMinPO X.K) := by
  intro pins s σ H vs us Q I r h
  obtain ⟨a, xs, k, rfl, hs, hne, hk, q⟩ := h
  obtain ⟨its, rv, hl, hz⟩ := I.list hs
  rw [Vals.ref1 r]
  have hlen := rv.length
  have hpos : 0 < its.length := by
    rw [← hlen]
    exact List.length_pos_iff.mpr hne
  have at_ : ∀ (i : Nat) v, its[i]? = some v → ∃ x, xs[i]? = some x ∧ RelV x v ∧ ∃ t, x = V.ref t ∧ H t = some (.tup [.int (k x).1, .int (k x).2]) := fun i v e => by
    have hi := (List.getElem?_eq_some_iff.mp e).1
    obtain ⟨x, ex⟩ : ∃ x, xs[i]? = some x := ⟨_, List.getElem?_eq_getElem (by omega)⟩
    obtain ⟨w, ew, rw'⟩ := rv.get ex
    rw [e] at ew
    cases ew
    exact ⟨x, ex, rw', hk x (List.mem_of_getElem? ex)⟩
  refine min_listH (fun i j => SrtO.lexB (k (xs.getD i .non)) (k (xs.getD j .non))) (I.ok.hd hc) hl.isList (by simpa using hpos) (fun t i j x y Q' E' kp hx hy h => ?_) fun v h' tk hv kp => ?_
  · obtain ⟨x1, e1, r1, t1, rfl, ht1⟩ := at_ i x (by simpa using hx)
    obtain ⟨x2, e2, r2, t2, rfl, ht2⟩ := at_ j y (by simpa using hy)
    cases r1
    cases r2
    obtain ⟨its1, v1, p1, _⟩ := I.tuple (SqT.of ht1)
    obtain ⟨its2, v2, p2, _⟩ := I.tuple (SqT.of ht2)
    have i1 : IntsAre its1.toArray.toList [(k (.ref t1)).1, (k (.ref t1)).2] := intsAre_of (ns := [(k (.ref t1)).1, (k (.ref t1)).2]) v1
    have i2 : IntsAre its2.toArray.toList [(k (.ref t2)).1, (k (.ref t2)).2] := intsAre_of (ns := [(k (.ref t2)).1, (k (.ref t2)).2]) v2
    have up : ∀ {l : Addr} {its : Array Value}, IsTup s.heap l its → IsTup t.heap l its := fun ⟨o, ho, r⟩ => ⟨o, kp _ _ ho, r⟩
    have hu1 : X.A.in1.units < cLine := Nat.lt_of_le_of_lt (show X.A.in1.units ≤ X.A.units + 64 from by first | exact Nat.le_add_right _ _ | exact Nat.add_le_add_left (by decide) _) hu
    refine HT.lt_tupInts (up p1) (up p2) i1 i2 hu1 ?_
    rw [lexLt2]
    rw [List.getD_eq_getElem?_getD, List.getD_eq_getElem?_getD, e1, e2] at h
    exact h
  · obtain ⟨B, hB⟩ : ∃ B, argBest (fun i j => SrtO.lexB (k (xs.getD i .non)) (k (xs.getD j .non))) (its.toArray.size - 1) = B := ⟨_, rfl⟩
    rw [hB] at hv
    obtain ⟨x, e1, r1, _⟩ := at_ B v (by simpa using hv)
    refine ⟨x, H, I.kept kp, r1, q x (List.mem_of_getElem? e1) fun y hy => ?_⟩
    obtain ⟨j, ej⟩ := List.mem_iff_getElem?.mp hy
    have hj := (List.getElem?_eq_some_iff.mp ej).1
    have hm : leP (k (xs.getD B .non)) (k (xs.getD j .non)) = true := by
      rw [← hB]
      exact argB_min (fun i => k (xs.getD i .non)) (its.toArray.size - 1) j (by rw [List.size_toArray]; omega)
    rw [List.getD_eq_getElem?_getD, List.getD_eq_getElem?_getD, e1, ej] at hm
    exact hm
theorem _root_.L2.Room.units65 {k : Nat} {A : Around} (r : Room k A) : A.units + 65 < cLine := by
  have h1 := r.un
  omega
/-! ### built-in calls -/
section
variable {X : Cx}
def uMax (K : PySem.W.Frag) : List V → Hp → VK → Prop := fun xs H Q => (∃ i j, xs = [.int i, .int j] ∧ Q (.int (if j > i then j else i)) H) ∨ rMax K xs H Q
theorem cr_umax (hc : X.calm = true := by rfl) : CallR X (.builtin "max") (uMax X.K) := (call_max2 hc).or (cr_max hc)
def uMin (K : PySem.W.Frag) : List V → Hp → VK → Prop := fun xs H Q => (∃ i j, xs = [.int i, .int j] ∧ Q (.int (if j < i then j else i)) H) ∨ rMin K xs H Q
theorem cr_umin (hc : X.calm = true := by rfl) : CallR X (.builtin "min") (uMin X.K) := (call_min2 hc).or (cr_min hc)
theorem cr_usum (hc : X.calm = true := by rfl) : CallR X (.builtin "sum") (rSum X.K) := cr_sum hc
theorem cr_uall (hc : X.calm = true := by rfl) : CallR X (.builtin "all") (rAll X.K) := cr_all hc
theorem cr_uany (hc : X.calm = true := by rfl) : CallR X (.builtin "any") (rAny X.K) := cr_any hc
def uList (K : PySem.W.Frag) : List V → Hp → VK → Prop := fun xs H Q => (∃ p ys, xs = [.ref p] ∧ (SqL K H p ys ∨ SqT K H p ys) ∧ ∀ l, H l = none → Q (.ref l) (upd H l (.lst ys))) ∨ rListD xs H Q
theorem ct_list (hc : X.calm = true := by rfl) : CallR X (.type "list") (uList X.K) := call_list_of.or (call_list_dK hc)
def uTup (K : PySem.W.Frag) : List V → Hp → VK → Prop := fun xs H Q => ∃ x, xs = [x] ∧ kTup K x H Q
theorem ct_tuple : CallR X (.type "tuple") (uTup X.K) := by
  intro pins s σ H xs us Q I r h
  obtain ⟨x, rfl, h⟩ := h
  obtain ⟨u, rfl, ru⟩ := vals1 r
  exact rl_tuple pins s σ H x u Q I ru h
def uInt : List V → Hp → VK → Prop := fun xs H Q => (∃ i, xs = [.int i] ∧ Q (.int i) H) ∨ ∃ k, xs = [.bl k] ∧ Q (.int (if k then 1 else 0)) H
theorem ct_int : CallR X (.type "int") uInt := call_int1
theorem bt_max : bootBuiltins "max" = some (.builtin "max") := by decide +kernel
theorem bt_min : bootBuiltins "min" = some (.builtin "min") := by decide +kernel
theorem bt_sum : bootBuiltins "sum" = some (.builtin "sum") := by decide +kernel
theorem bt_all : bootBuiltins "all" = some (.builtin "all") := by decide +kernel
theorem bt_any : bootBuiltins "any" = some (.builtin "any") := by decide +kernel
theorem bt_sorted : bootBuiltins "sorted" = some (.builtin "sorted") := by decide +kernel
def uLen (K : PySem.W.Frag) : List V → Hp → VK → Prop := fun xs H Q => (∃ p ys, xs = [.ref p] ∧ (SqL K H p ys ∨ SqT K H p ys) ∧ Q (.int ys.length) H) ∨ ((∃ z, xs = [.str z] ∧ z.length ≤ sizeLine ∧ Q (.int z.length) H) ∨ (∃ a kvs, xs = [V.ref a] ∧ H a = some (.dK kvs) ∧ Q (.int kvs.length) H))
theorem cr_ulen : CallR X (.builtin "len") (uLen X.K) := call_len_seq.or (call_len_str.or call_lenD)
def uIsi (K : PySem.W.Frag) : List V → Hp → VK → Prop := rIsi K
theorem cr_uisinstance : CallR X (.builtin "isinstance") (uIsi X.K) := call_isi
def uStr : List V → Hp → VK → Prop := fun xs H Q => ∃ i, xs = [.int i] ∧ i.natAbs.log2 < 1920 ∧ Q (.str (toString i)) H
theorem ct_str : CallR X (.type "str") uStr := call_str_int
theorem bt_isinstance : bootBuiltins "isinstance" = some (.builtin "isinstance") := by decide +kernel
theorem bt_int : bootBuiltins "int" = some (.type "int") := by decide +kernel
theorem bt_bool : bootBuiltins "bool" = some (.type "bool") := by decide +kernel
theorem bt_str : bootBuiltins "str" = some (.type "str") := by decide +kernel
theorem bt_ValueError : bootBuiltins "ValueError" = some (.type "ValueError") := by decide +kernel
theorem bt_list : bootBuiltins "list" = some (.type "list") := by decide +kernel
theorem bt_tuple : bootBuiltins "tuple" = some (.type "tuple") := by decide +kernel
theorem bt_dict : bootBuiltins "dict" = some (.type "dict") := by decide +kernel
theorem bt_len : bootBuiltins "len" = some (.builtin "len") := by decide +kernel
end
section
variable {σ : L2.St} {H : Hp} {K : PySem.W.Frag} {Q : VK} {p : Addr} {xs : List V} {n : Int} {v : V}
theorem x_lenL (h : SqL K H p xs) (q : Q (.int xs.length) H) : uLen K [.ref p] H Q := .inl ⟨p, xs, rfl, .inl h, q⟩
theorem x_lenM {α : Type} {l : List α} {f : α → V} (h : SqL K H p (l.map f)) (q : Q (.int l.length) H) : uLen K [.ref p] H Q := .inl ⟨p, _, rfl, .inl h, by rw [List.length_map]; exact q⟩
theorem x_lenT (h : SqT K H p xs) (q : Q (.int xs.length) H) : uLen K [.ref p] H Q := .inl ⟨p, xs, rfl, .inr h, q⟩
/-- the built-in class of a value -/
def tyN : V → Option String
  | .non => some "NoneType" | .bl _ => some "bool" | .int _ => some "int" | .str _ => some "str" | .flt _ => some "float" | _ => none
theorem x_isiV {c : String} {t : String} {b : Bool} (ht : tyN v = some t) (hk : kitB t c = some b) (q : Q (.bl b) H) : uIsi K [v, .ty c] H Q := by
  have ty : TyX K H v (.type t) := by
    cases v <;> simp only [tyN, Option.some.injEq, reduceCtorEq] at ht <;> subst ht
    · exact .base .non
    · exact .base (.bl _)
    · exact .base (.int _)
    · exact .base (.str _)
    · exact .base (.flt _)
  exact ⟨v, .ty c, .type t, .type c, b, rfl, .ty c, ty, kit_ty hk, q⟩
theorem x_isiR {c t : String} {b : Bool} (ty : TyX K H (.ref p) (.type t)) (hk : kitB t c = some b) (q : Q (.bl b) H) : uIsi K [.ref p, .ty c] H Q :=
  ⟨.ref p, .ty c, .type t, .type c, b, rfl, .ty c, ty, kit_ty hk, q⟩
theorem x_isiNon_int (q : Q (.bl false) H) : uIsi K [V.non, .ty "int"] H Q := x_isiV rfl (by decide +kernel) q
theorem x_isiNon_bool (q : Q (.bl false) H) : uIsi K [V.non, .ty "bool"] H Q := x_isiV rfl (by decide +kernel) q
theorem x_isiNon_str (q : Q (.bl false) H) : uIsi K [V.non, .ty "str"] H Q := x_isiV rfl (by decide +kernel) q
theorem x_isiNon_list (q : Q (.bl false) H) : uIsi K [V.non, .ty "list"] H Q := x_isiV rfl (by decide +kernel) q
theorem x_isiNon_tuple (q : Q (.bl false) H) : uIsi K [V.non, .ty "tuple"] H Q := x_isiV rfl (by decide +kernel) q
theorem x_isiNon_dict (q : Q (.bl false) H) : uIsi K [V.non, .ty "dict"] H Q := x_isiV rfl (by decide +kernel) q
theorem x_isiBl_int {b : Bool} (q : Q (.bl true) H) : uIsi K [(V.bl b), .ty "int"] H Q := x_isiV rfl (by decide +kernel) q
theorem x_isiBl_bool {b : Bool} (q : Q (.bl true) H) : uIsi K [(V.bl b), .ty "bool"] H Q := x_isiV rfl (by decide +kernel) q
theorem x_isiBl_str {b : Bool} (q : Q (.bl false) H) : uIsi K [(V.bl b), .ty "str"] H Q := x_isiV rfl (by decide +kernel) q
theorem x_isiBl_list {b : Bool} (q : Q (.bl false) H) : uIsi K [(V.bl b), .ty "list"] H Q := x_isiV rfl (by decide +kernel) q
theorem x_isiBl_tuple {b : Bool} (q : Q (.bl false) H) : uIsi K [(V.bl b), .ty "tuple"] H Q := x_isiV rfl (by decide +kernel) q
theorem x_isiBl_dict {b : Bool} (q : Q (.bl false) H) : uIsi K [(V.bl b), .ty "dict"] H Q := x_isiV rfl (by decide +kernel) q
theorem x_isiInt_int (q : Q (.bl true) H) : uIsi K [(V.int n), .ty "int"] H Q := x_isiV rfl (by decide +kernel) q
theorem x_isiInt_bool (q : Q (.bl false) H) : uIsi K [(V.int n), .ty "bool"] H Q := x_isiV rfl (by decide +kernel) q
theorem x_isiInt_str (q : Q (.bl false) H) : uIsi K [(V.int n), .ty "str"] H Q := x_isiV rfl (by decide +kernel) q
theorem x_isiInt_list (q : Q (.bl false) H) : uIsi K [(V.int n), .ty "list"] H Q := x_isiV rfl (by decide +kernel) q
theorem x_isiInt_tuple (q : Q (.bl false) H) : uIsi K [(V.int n), .ty "tuple"] H Q := x_isiV rfl (by decide +kernel) q
theorem x_isiInt_dict (q : Q (.bl false) H) : uIsi K [(V.int n), .ty "dict"] H Q := x_isiV rfl (by decide +kernel) q
theorem x_isiStr_int {z : Str} (q : Q (.bl false) H) : uIsi K [(V.str z), .ty "int"] H Q := x_isiV rfl (by decide +kernel) q
theorem x_isiStr_bool {z : Str} (q : Q (.bl false) H) : uIsi K [(V.str z), .ty "bool"] H Q := x_isiV rfl (by decide +kernel) q
theorem x_isiStr_str {z : Str} (q : Q (.bl true) H) : uIsi K [(V.str z), .ty "str"] H Q := x_isiV rfl (by decide +kernel) q
theorem x_isiStr_list {z : Str} (q : Q (.bl false) H) : uIsi K [(V.str z), .ty "list"] H Q := x_isiV rfl (by decide +kernel) q
theorem x_isiStr_tuple {z : Str} (q : Q (.bl false) H) : uIsi K [(V.str z), .ty "tuple"] H Q := x_isiV rfl (by decide +kernel) q
theorem x_isiStr_dict {z : Str} (q : Q (.bl false) H) : uIsi K [(V.str z), .ty "dict"] H Q := x_isiV rfl (by decide +kernel) q
theorem x_isiLst_int (h : H p = some (.lst xs)) (q : Q (.bl false) H) : uIsi K [.ref p, .ty "int"] H Q := x_isiR (.base (.lst h)) (by decide +kernel) q
theorem x_isiLst_bool (h : H p = some (.lst xs)) (q : Q (.bl false) H) : uIsi K [.ref p, .ty "bool"] H Q := x_isiR (.base (.lst h)) (by decide +kernel) q
theorem x_isiLst_str (h : H p = some (.lst xs)) (q : Q (.bl false) H) : uIsi K [.ref p, .ty "str"] H Q := x_isiR (.base (.lst h)) (by decide +kernel) q
theorem x_isiLst_list (h : H p = some (.lst xs)) (q : Q (.bl true) H) : uIsi K [.ref p, .ty "list"] H Q := x_isiR (.base (.lst h)) (by decide +kernel) q
theorem x_isiLst_tuple (h : H p = some (.lst xs)) (q : Q (.bl false) H) : uIsi K [.ref p, .ty "tuple"] H Q := x_isiR (.base (.lst h)) (by decide +kernel) q
theorem x_isiLst_dict (h : H p = some (.lst xs)) (q : Q (.bl false) H) : uIsi K [.ref p, .ty "dict"] H Q := x_isiR (.base (.lst h)) (by decide +kernel) q
theorem x_isiTup_int (h : H p = some (.tup xs)) (q : Q (.bl false) H) : uIsi K [.ref p, .ty "int"] H Q := x_isiR (.base (.tup h)) (by decide +kernel) q
theorem x_isiTup_bool (h : H p = some (.tup xs)) (q : Q (.bl false) H) : uIsi K [.ref p, .ty "bool"] H Q := x_isiR (.base (.tup h)) (by decide +kernel) q
theorem x_isiTup_str (h : H p = some (.tup xs)) (q : Q (.bl false) H) : uIsi K [.ref p, .ty "str"] H Q := x_isiR (.base (.tup h)) (by decide +kernel) q
theorem x_isiTup_list (h : H p = some (.tup xs)) (q : Q (.bl false) H) : uIsi K [.ref p, .ty "list"] H Q := x_isiR (.base (.tup h)) (by decide +kernel) q
theorem x_isiTup_tuple (h : H p = some (.tup xs)) (q : Q (.bl true) H) : uIsi K [.ref p, .ty "tuple"] H Q := x_isiR (.base (.tup h)) (by decide +kernel) q
theorem x_isiTup_dict (h : H p = some (.tup xs)) (q : Q (.bl false) H) : uIsi K [.ref p, .ty "dict"] H Q := x_isiR (.base (.tup h)) (by decide +kernel) q
theorem x_isiDk_int {kvs : List (Key × V)} (h : H p = some (.dK kvs)) (q : Q (.bl false) H) : uIsi K [.ref p, .ty "int"] H Q := x_isiR (.base (.dK h)) (by decide +kernel) q
theorem x_isiDk_bool {kvs : List (Key × V)} (h : H p = some (.dK kvs)) (q : Q (.bl false) H) : uIsi K [.ref p, .ty "bool"] H Q := x_isiR (.base (.dK h)) (by decide +kernel) q
theorem x_isiDk_str {kvs : List (Key × V)} (h : H p = some (.dK kvs)) (q : Q (.bl false) H) : uIsi K [.ref p, .ty "str"] H Q := x_isiR (.base (.dK h)) (by decide +kernel) q
theorem x_isiDk_list {kvs : List (Key × V)} (h : H p = some (.dK kvs)) (q : Q (.bl false) H) : uIsi K [.ref p, .ty "list"] H Q := x_isiR (.base (.dK h)) (by decide +kernel) q
theorem x_isiDk_tuple {kvs : List (Key × V)} (h : H p = some (.dK kvs)) (q : Q (.bl false) H) : uIsi K [.ref p, .ty "tuple"] H Q := x_isiR (.base (.dK h)) (by decide +kernel) q
theorem x_isiDk_dict {kvs : List (Key × V)} (h : H p = some (.dK kvs)) (q : Q (.bl true) H) : uIsi K [.ref p, .ty "dict"] H Q := x_isiR (.base (.dK h)) (by decide +kernel) q
theorem x_intB {b : Bool} (q : Q (.int (if b then 1 else 0)) H) : uInt [.bl b] H Q := .inr ⟨b, rfl, q⟩
theorem x_intI {m : Int} (q : Q (.int m) H) : uInt [.int m] H Q := .inl ⟨m, rfl, q⟩
theorem x_max2 {m n : Int} (q : Q (.int (if n > m then n else m)) H) : uMax K [.int m, .int n] H Q := .inl ⟨m, n, rfl, q⟩
theorem x_min2 {m n : Int} (q : Q (.int (if n < m then n else m)) H) : uMin K [.int m, .int n] H Q := .inl ⟨m, n, rfl, q⟩
theorem x_list (h : SqL K H p xs) (q : New H Q (.lst xs)) : uList K [.ref p] H Q := .inl ⟨p, xs, rfl, .inl h, q.mk⟩
theorem x_tupL (h : SqL K H p xs) (q : New H Q (.tup xs)) : uTup K [.ref p] H Q := ⟨_, rfl, .inl ⟨p, xs, rfl, h, q.mk⟩⟩
theorem x_listD {kvs : List (L2.Key × V)} (h : H p = some (.dK kvs)) (q : New H Q (.lst (kvs.map fun kv => kV kv.1))) : uList K [.ref p] H Q := .inr ⟨p, kvs, rfl, h, q.mk⟩
theorem x_lenD {kvs : List (L2.Key × V)} (h : H p = some (.dK kvs)) (q : Q (.int kvs.length) H) : uLen K [.ref p] H Q := .inr (.inr ⟨p, kvs, rfl, h, q⟩)
theorem x_str (q : Q (.str (toString n)) H) (h : n.natAbs.log2 < 1920) : uStr [.int n] H Q := ⟨n, rfl, h, q⟩
end
/-! ### the same rules where K is told (inside a comprehension) -/
section
variable {X : Cx} {K : PySem.W.Frag} {a b e : Expr} {rest : List Expr} {ta tb : TE} {pos : Pos} {f : Str}
theorem K_ix (hK : X.K = K := by rfl) : IxR X (rIx K) := hK ▸ ix_seq
theorem K_sl (hK : X.K = K := by rfl) : SlR X (rSlL K) := hK ▸ sl_u
theorem K_add (hK : X.K = K := by rfl) : OpR X (binaryOp .Add) (uAdd K) := hK ▸ op_uAdd
theorem K_eq (hu : X.A.units + 64 < cLine) (hK : X.K = K := by rfl) : OpR X (compareOp .Eq) (uEq K) := hK ▸ op_uEq hu
theorem K_ne (hu : X.A.units + 64 < cLine) (hK : X.K = K := by rfl) : OpR X (compareOp .NotEq) (uNe K) := hK ▸ op_uNe hu
theorem K_in (hK : X.K = K := by rfl) : OpR X (compareOp .In) (uIn K) := hK ▸ op_uIn
theorem K_notIn (hK : X.K = K := by rfl) : OpR X (compareOp .NotIn) (uNotIn K) := hK ▸ op_uNotIn
theorem K_fld (he : PE X e ta) (hb : attributeBase e f X.env (eval e X.env) = eval e X.env) (hK : X.K = K := by rfl) : PE X (.Attribute e f pos) (tFld K ta f) := hK ▸ pe_fld he hb
theorem K_orT (ha : PE X a ta) (hb : PE X (.BoolOp .Or (b :: rest) pos) tb) (hK : X.K = K := by rfl) : PE X (.BoolOp .Or (a :: b :: rest) pos) (tOrT K ta tb) := hK ▸ pe_orT ha hb
theorem K_andT (ha : PE X a ta) (hb : PE X (.BoolOp .And (b :: rest) pos) tb) (hK : X.K = K := by rfl) : PE X (.BoolOp .And (a :: b :: rest) pos) (tAndT K ta tb) := hK ▸ pe_andT ha hb
theorem K_notT (ha : PE X a ta) (hK : X.K = K := by rfl) : PE X (.UnaryOp .Not a pos) (tNotT K ta) := hK ▸ pe_notT ha
theorem K_ulen (hK : X.K = K := by rfl) : CallR X (.builtin "len") (uLen K) := hK ▸ cr_ulen
theorem K_umax (hc : X.calm = true := by rfl) (hK : X.K = K := by rfl) : CallR X (.builtin "max") (uMax K) := hK ▸ cr_umax hc
theorem K_umin (hc : X.calm = true := by rfl) (hK : X.K = K := by rfl) : CallR X (.builtin "min") (uMin K) := hK ▸ cr_umin hc
theorem K_usum (hc : X.calm = true := by rfl) (hK : X.K = K := by rfl) : CallR X (.builtin "sum") (rSum K) := hK ▸ cr_usum hc
theorem K_uisinstance (hK : X.K = K := by rfl) : CallR X (.builtin "isinstance") (uIsi K) := hK ▸ cr_uisinstance
theorem K_gtup {K : PySem.W.Frag} {es : List Expr} {k : Nat} {ts : TGs} {n : Nat} {pos : Pos} (hc : X.calm = true) (h : PGs X es ts) (hn : (assignEach es X.env).length = n := by rfl) (hst : (assignEach es X.env).findIdx? (·.1) = none := by rfl) (hK : X.K = K := by rfl) : PG X (.Tuple es k pos) (gTup K n ts) := hK ▸ pg_tup hc h hn hst
theorem K_usorted (hc : X.calm = true := by rfl) (hK : X.K = K := by rfl) : CallR X (.builtin "sorted") (uSorted K) := hK ▸ cr_usorted hc
theorem K_list (hK : X.K = K := by rfl) (hc : X.calm = true := by rfl) : CallR X (.type "list") (uList K) := hK ▸ ct_list hc
theorem K_methD {P : Program} {w : World} {mg : Str → Option Value} {base : Heap} {k : Nat} {E : L2.St → XK} {m : Str} {pos apos : Pos} {e o : Expr} {es : List Expr} {t : TA} {pl : Sem Bool} (he : PE X o ta) (hr : Room k X.A) (hx : ∀ σ, PassesAt (L2.CX P w) X σ (E σ)) (ha : PA X (e :: es) t)
    (hst : starEach (e :: es) X.env = (false, eval e X.env) :: starEach es X.env := by rfl) (hpl : (backTo pos (starEach es X.env)).any (·.1) = false := by rfl)
    (ht : eval (.Call (.Attribute o m apos) (e :: es) [] pos) X.env = (do
      let ov ← eval o X.env
      standAt apos.atName
      let (f, first) ← holding [ov] (getMethod ov m pl)
      callWith pos f first (backTo pos (starEach (e :: es) X.env)) (backToKw pos (keywordEach [] X.env))) := by rfl)
    (h1 : X.prog = P := by rfl) (h2 : X.w = w := by rfl) (h3 : X.K = K := by rfl) (h4 : X.mg = mg := by rfl) (h5 : X.base = base := by rfl) :
    PE X (.Call (.Attribute o m apos) (e :: es) [] pos) (tMethD P w K mg base (L2.CX P w) k m E ta t) := by
  subst h1 h2 h3 h4 h5
  exact pe_methD he hr hx ha hst hpl ht
theorem K_methD0 {P : Program} {w : World} {mg : Str → Option Value} {base : Heap} {k : Nat} {E : L2.St → XK} {m : Str} {pos apos : Pos} {o : Expr} {pl : Sem Bool} (he : PE X o ta) (hr : Room k X.A) (hx : ∀ σ, PassesAt (L2.CX P w) X σ (E σ))
    (ht : eval (.Call (.Attribute o m apos) [] [] pos) X.env = (do
      let ov ← eval o X.env
      standAt apos.atName
      let (f, first) ← holding [ov] (getMethod ov m pl)
      callWith pos f first (backTo pos (starEach [] X.env)) (backToKw pos (keywordEach [] X.env))) := by rfl)
    (h1 : X.prog = P := by rfl) (h2 : X.w = w := by rfl) (h3 : X.K = K := by rfl) (h4 : X.mg = mg := by rfl) (h5 : X.base = base := by rfl) :
    PE X (.Call (.Attribute o m apos) [] [] pos) (tMethD P w K mg base (L2.CX P w) k m E ta tNil) := by
  subst h1 h2 h3 h4 h5
  exact pe_methD0 he hr hx ht
theorem K_truth (ha : PE X a ta) (he : ∀ whole, isTrue a X.env whole = (do let v ← whole; standAt a.pos; holding [v] (truthy v))) (hK : X.K = K := by rfl) : PT X a (fun σ H Q => ta σ H fun x H' => ∃ k, TruV K x H' k ∧ Q k H') := hK ▸ pt_truth ha he
end
/-! sorted(d.items()), d a dict from whole numbers to whole numbers -/
section
open L2.DX
variable {X : Cx}
def rItemsI : V → List V → Hp → VK → Prop := fun x xs H Q => ∃ (a : Addr) (kvs : List (L2.Key × V)), x = .ref a ∧ xs = [] ∧ H a = some (.dK kvs) ∧ ∀ p, H p = none → Q (.ref p) (upd H p (itemsO p a))
theorem mt_itemsI : MtR X "dict.items" rItemsI := by
  intro pins s σ H x xs v us Q I rx rxs h
  obtain ⟨a, kvs, rfl, rfl, ha, q⟩ := h
  cases rx
  cases rxs
  obtain ⟨z, hd, xs', rel, o, es, ep, ho, hx, hdat, _⟩ := dk_of I.hok ha
  refine DT.callItems (es := es) (ep := ep) hd ⟨o, ho, hx, hdat⟩ ?_
  have hf : H s.heap.objs.size = none := I.hok.fresh (Nat.le_refl _)
  exact ⟨.ref s.heap.objs.size, upd H s.heap.objs.size (itemsO s.heap.objs.size a), I.laid (t' := s.toks) (fun b u e => Heap.get?_push_of_some _ e) (Nat.le_refl _) (itemsO_ok (Heap.get?_push_size _ rfl)), rfl, q _ hf⟩
theorem pairs_get {K : Type} [DecidableEq K] {prog : Program} {w : World} {knd : KeyKind prog w K} : ∀ {es : List DictEntry} {kvs : List (K × Value)}, Pairs knd es kvs → ∀ {j : Nat} {e : DictEntry}, es[j]? = some e → ∃ kv, kvs[j]? = some kv ∧ knd.is kv.1 e.key = true ∧ e.val = kv.2
  | _, _, .nil, j, e, h => by simp at h
  | _, _, .cons h1 h2 h3, 0, e, h => by
    cases h
    exact ⟨_, rfl, h1, h2⟩
  | _, _, .cons h1 h2 h3, j + 1, e, h => pairs_get h3 h
def kvP (l : List (Int × Int)) : List (L2.Key × V) := l.map fun e => (Sum.inl e.1, V.int e.2)
def rSortItI (B : Int) : List V → Hp → VK → Prop := fun vs H Q => ∃ (p a : Addr) (ls : List (Int × Int)), vs = [.ref p] ∧ H p = some (itemsO p a) ∧ H a = some (.dK (kvP ls)) ∧ ls.length < 64 ∧ (∀ e ∈ ls, TS.Bd B [e.1, e.2]) ∧
  ∀ (H' : Hp) (l : Addr) (ys : List V), Same H H' → H l = none → H' l = some (.lst ys) → PairL H' ys (sortP ls) → Q (.ref l) H'
theorem pget2 {α β : Type} {F : α → β → Prop} : ∀ {l : List α} {m : List β}, Paired F l m → ∀ {j : Nat} {b : β}, m[j]? = some b → ∃ a, l[j]? = some a ∧ F a b
  | _, _, .nil, j, b, h => by simp at h
  | _, _, .cons h1 h2, 0, b, h => by
    cases h
    exact ⟨_, rfl, h1⟩
  | _, _, .cons h1 h2, j + 1, b, h => pget2 h2 h
theorem cr_sortItI {B : Int} (hc : X.calm = true) : CallR X (.builtin "sorted") (rSortItI B) := by
  intro pins s σ H xs us Q I r h
  obtain ⟨p, a, ls, rfl, hp, ha, h64, hB, q⟩ := h
  obtain rfl := Vals.ref1 r
  have view : s.heap.IsItemsView p a := (show ObjOk X.prog X.w H s.heap p (itemsO p a) from I.hok p _ hp).1
  obtain ⟨z, hd, vs, rel, o, es, ep, ho, hx, hdat, hko, hpr, hnd⟩ := dk_of I.hok ha
  have l1 : (kvP ls).length = vs.length := Paired.length rel
  unfold kvP at l1
  rw [List.length_map] at l1
  have l2 : es.size = vs.length := by
    rw [← Array.length_toList]
    exact hpr.length
  have hh : X.A.handled = none := I.ok.hd hc
  refine DT.sortedI (es := es) (ep := ep) hh view ⟨o, ho, hx, hdat⟩ (by rw [sizeLine_eq]; omega) fun h' tk as hk hlt hl hG => ?_
  have lak : as.length = ls.length := by omega
  have nd : as.Nodup := List.Pairwise.imp (fun h => Nat.ne_of_lt h) hG.rise
  -- the pairs that were made
  have pr : ∀ (j : Nat) (b : Addr), as[j]? = some b → ∃ (e : Int × Int) (t1 t2 : Tok), ls[j]? = some e ∧ h'.get? b = some { cls := .type "tuple", data := .seq #[Value.int e.1 t1, Value.int e.2 t2] } := by
    intro j b hj
    obtain ⟨en, he, hg⟩ := hG.pairs j b hj
    rw [← Array.getElem?_toList] at he
    obtain ⟨kv, hkv, hki, hev⟩ := pairs_get hpr he
    obtain ⟨e0, he0, r1, r2⟩ := pget2 rel hkv
    unfold kvP at he0
    rw [List.getElem?_map] at he0
    cases hkj : ls[j]? with
    | none =>
      rw [hkj] at he0
      cases he0
    | some e =>
      rw [hkj] at he0
      have ee : (Sum.inl e.1, V.int e.2) = e0 := Option.some.inj he0
      rw [← ee] at r1 r2
      have hi : Value.isInt e.1 en.key = true := by
        have := hki
        rw [← r1] at this
        exact this
      obtain ⟨t1, h1⟩ := Value.isInt_shape hi
      obtain ⟨t2, h2⟩ := (show ∃ t, kv.2 = Value.int e.2 t from r2)
      refine ⟨e, t1, t2, rfl, ?_⟩
      rw [hg, h1, hev, h2]
  have hob : (h'.push { cls := .type "list", data := .seq (as.map Value.ref).toArray }).get? h'.objs.size = some (seqObj "list" (as.map Value.ref).toArray 0) := Heap.get?_push_size _ rfl
  have kb : ∀ b o, s.heap.get? b = some o → (h'.push { cls := .type "list", data := .seq (as.map Value.ref).toArray }).get? b = some o := fun b o e => Heap.get?_push_of_some _ (hk b o e)
  have ne0 : ∀ b o, h'.get? b = some o → b ≠ h'.objs.size := fun b o e => Nat.ne_of_lt (Heap.lt_size e)
  generalize hh2 : h'.push { cls := .type "list", data := .seq (as.map Value.ref).toArray } = h2 at hob kb ⊢
  have ka : ∀ b o, h'.get? b = some o → h2.get? b = some o := fun b o e => by rw [← hh2]; exact Heap.get?_push_of_some _ e
  have at_ : ∀ v ∈ as.map Value.ref, ∃ (j : Nat) (b : Addr), v = .ref b ∧ as[j]? = some b := by
    intro v hv'
    obtain ⟨b, hb, rfl⟩ := List.mem_map.mp hv'
    obtain ⟨j, hj⟩ := List.mem_iff_getElem?.mp hb
    exact ⟨j, b, rfl, hj⟩
  have ti : ∀ (j : Nat) (b : Addr) (e : Int × Int), as[j]? = some b → ls[j]? = some e → TS.TupInts h2 (.ref b) [e.1, e.2] := by
    intro j b e hj he
    obtain ⟨e', t1, t2, he', hg⟩ := pr j b hj
    have ee : e' = e := Option.some.inj (he'.symm.trans he)
    subst ee
    exact ⟨b, _, rfl, ⟨_, ka _ _ hg, rfl, 0, rfl⟩, .cons _ _ (.cons _ _ .nil)⟩
  refine TS.call_sort_tups (d := 2) (B := B) (s := { s with heap := h2, toks := tk }) hob (by rw [List.length_map]; omega) (by decide) (fun v hv => ?_) fun out o2 o3 => ?_
  · obtain ⟨j, b, rfl, hj⟩ := at_ v hv
    obtain ⟨e, _, _, he, _⟩ := pr j b hj
    exact ⟨[e.1, e.2], ti j b e hj he, rfl, hB e (List.mem_of_getElem? he)⟩
  · obtain ⟨zs, pz, ez⟩ := perm_lift (fun z : Addr × (Int × Int) => Value.ref z.1) o2 (as.zip ls) (by
      have e : (as.zip ls).map (fun z : Addr × (Int × Int) => Value.ref z.1) = ((as.zip ls).map Prod.fst).map Value.ref := by rw [List.map_map]; rfl
      rw [e, List.map_fst_zip (by rw [lak]; exact Nat.le_refl _)])
    have idx : ∀ z ∈ zs, ∃ j : Nat, as[j]? = some z.1 ∧ ls[j]? = some z.2 := by
      intro z' hz'
      obtain ⟨j, hj⟩ := List.mem_iff_getElem?.mp (pz.mem_iff.mp hz')
      exact ⟨j, List.getElem?_zip_eq_some.mp hj⟩
    have hout : out.toList = zs.map fun z => Value.ref z.1 := ez.symm
    have hperm : (zs.map (·.2)).Perm ls := by
      have e := pz.map (·.2)
      have m2 : (as.zip ls).map (·.2) = ls := List.map_snd_zip (by rw [lak]; exact Nat.le_refl _)
      rw [m2] at e
      exact e
    have hsort : zs.map (·.2) = sortP ls := by
      refine sortP_eq hperm ?_
      rw [hout, List.pairwise_map] at o3
      rw [List.pairwise_map]
      refine List.Pairwise.imp_of_mem (fun {x y} hx hy h => ?_) o3
      obtain ⟨j, j1, j2⟩ := idx x hx
      obtain ⟨i, i1, i2⟩ := idx y hy
      have h' : TS.code B (TS.intsOf h2 (.ref x.1)) ≤ TS.code B (TS.intsOf h2 (.ref y.1)) := h
      rw [(ti j _ _ j1 j2).ints, (ti i _ _ i1 i2).ints] at h'
      exact leP_iff.mpr (code_lex (hB _ (List.mem_of_getElem? j2)) (hB _ (List.mem_of_getElem? i2)) h')
    -- behind the sort
    have kF : ∀ b o, b ≠ h'.objs.size → h2.get? b = some o → (sortedHeap h2 h'.objs.size (as.map Value.ref) out).get? b = some o := fun b o hb e => (PyProof.Rows.sortedHeap_old hb (Heap.lt_size e)).trans e
    have kS : ∀ b o, s.heap.get? b = some o → (sortedHeap h2 h'.objs.size (as.map Value.ref) out).get? b = some o := fun b o e => kF b o (ne0 _ _ (hk b o e)) (kb b o e)
    obtain ⟨eF, heF⟩ := PyProof.Rows.sortedHeap_at (vs := as.map Value.ref) (out := out) hob
    have I1 : Inv X pins σ H { s with heap := sortedHeap h2 h'.objs.size (as.map Value.ref) out, toks := tk } := I.kept (t' := tk) kS
    have hn0 : H h'.objs.size = none := I.hok.fresh (Nat.le_of_lt hlt)
    have hlen : (zs.map fun z => V.ref z.1).length ≤ sizeLine := by
      have e := hperm.length_eq
      rw [List.length_map] at e
      rw [List.length_map, sizeLine_eq]
      omega
    have rv : Vals (zs.map fun z => V.ref z.1) out.toList := by
      rw [hout]
      exact vals_maps (fun z : Addr × (Int × Int) => V.ref z.1) (fun z => Value.ref z.1) zs fun _ _ => rfl
    have I2 : Inv X pins σ (upd H h'.objs.size (.lst (zs.map fun z => V.ref z.1))) { s with heap := sortedHeap h2 h'.objs.size (as.map Value.ref) out, toks := tk } :=
      I1.take (h' := sortedHeap h2 h'.objs.size (as.map Value.ref) out) (t' := tk) (fun b ob _ e => e) (I.fpOk (Nat.le_of_lt hlt) hn0) ⟨hlen, out.toList, eF, rv, heF⟩
    obtain ⟨H2, I3, g, qt⟩ := takeT (P := fun b vs => ∃ (j : Nat) (e : Int × Int), as[j]? = some b ∧ ls[j]? = some e ∧ vs = [.int e.1, .int e.2]) I as _ I2 nd fun b hb => by
      obtain ⟨j, hj⟩ := List.mem_iff_getElem?.mp hb
      obtain ⟨e, t1, t2, he, hg⟩ := pr j b hj
      have hlo : s.heap.objs.size ≤ b := Nat.le_of_lt (hG.above b hb)
      have hb2 : b ≠ h'.objs.size := ne0 _ _ hg
      refine ⟨hlo, by rw [upd_ne hb2]; exact I.hok.fresh hlo, _, ⟨j, e, hj, he, rfl⟩, fun H2 => ?_⟩
      exact ⟨(show 2 ≤ sizeLine by decide), [Value.int e.1 t1, Value.int e.2 t2], .cons ⟨t1, rfl⟩ (.cons ⟨t2, rfl⟩ .nil), _, kF b _ hb2 (ka _ _ hg), rfl, 0, rfl⟩
    refine ⟨.ref h'.objs.size, H2, I3, rfl, q H2 h'.objs.size (zs.map fun z => V.ref z.1) (fun b o e => g b o (by rw [upd_ne (ne_of_none e hn0)]; exact e)) hn0 (g _ _ upd_same) ?_⟩
    rw [← hsort]
    refine ⟨by rw [List.length_map, List.length_map], fun i x e h1 h2 => ?_⟩
    rw [List.getElem?_map] at h1 h2
    cases hz : zs[i]? with
    | none =>
      rw [hz] at h1
      cases h1
    | some z =>
      rw [hz] at h1 h2
      cases h1
      cases h2
      obtain ⟨j, j1, j2⟩ := idx z (List.mem_of_getElem? hz)
      obtain ⟨vs', ⟨j', e', k1, k2, k3⟩, hv⟩ := qt z.1 (List.mem_of_getElem? j1)
      have ej : j' = j := by
        have hj' := (List.getElem?_eq_some_iff.mp k1)
        have hj := (List.getElem?_eq_some_iff.mp j1)
        obtain ⟨a1, a2⟩ := hj'
        obtain ⟨b1, b2⟩ := hj
        exact (List.getElem_inj nd).mp (a2.trans b2.symm)
      subst ej
      have ee : e' = z.2 := Option.some.inj (k2.symm.trans j2)
      subst ee
      subst k3
      exact ⟨z.1, rfl, hv⟩
end
section
open L2.DX
variable {K : PySem.W.Frag} {H : Hp} {Q : VK} {a v : Addr}
theorem x_itemsI {kvs : List (L2.Key × V)} (h : H a = some (.dK kvs)) (q : ∀ p H1, H p = none → Same H H1 → H1 p = some (itemsO p a) → Q (.ref p) H1) : bm0K K "dict" rItemsI Q (.ref a) H :=
  ⟨.inr (.inr (.inl ⟨rfl, .inl ⟨_, h⟩⟩)), a, kvs, rfl, rfl, h, fun p hp => q p _ hp (same_upd hp) upd_same⟩
theorem x_sortItI {B : Int} {ls : List (Int × Int)} (hv : H v = some (itemsO v a)) (h : H a = some (.dK (kvP ls))) (hl : ls.length < 64) (hb : ∀ e ∈ ls, TS.Bd B [e.1, e.2]) (q : ∀ p ys H', H p = none → Same H H' → H' p = some (.lst ys) → PairL H' ys (sortP ls) → Q (.ref p) H') : rSortItI B [.ref v] H Q :=
  ⟨v, a, ls, rfl, hv, h, hl, hb, fun H' l ys s hn e hp => q l ys H' hn s e hp⟩
end
/-! ### min(xs, default=d), max(xs, default=d); Base.__init__(self, ..) -/
section

theorem reads_ints {h : Heap} : ∀ {vs : List Value} {ns : List Int}, Vals (ns.map V.int) vs → ReadsAll h vs (ns.map PyData.int) []
  | [], [], _ => .nil
  | [], _ :: _, r => nomatch r
  | _ :: _, [], r => nomatch r
  | v :: vs, n :: ns, .cons r t => by
    obtain ⟨k, rfl⟩ := (show ∃ t, v = Value.int n t from r)
    exact .cons (as := []) (bs := []) (.int n k) (reads_ints t)
theorem alike_ints (ns : List Int) : PySem.W.AlikeAll (ns.map PyData.int) := by
  constructor
  · intro x hx y hy
    obtain ⟨a, _, rfl⟩ := List.mem_map.mp hx
    obtain ⟨b, _, rfl⟩ := List.mem_map.mp hy
    rfl
  · intro x hx
    obtain ⟨a, _, rfl⟩ := List.mem_map.mp hx
    exact fun z => nomatch z
theorem depth_ints : ∀ ns : List Int, PyData.depthAll (ns.map PyData.int) = 0
  | [] => by simp [PyData.depthAll]
  | n :: ns => by
    rw [List.map_cons, PyData.depthAll, depth_ints ns]
    simp [PyData.depth]
def minZ (d : Int) : List Int → Int
  | [] => d
  | n :: ns => ns.foldl min n
def maxZ (d : Int) : List Int → Int
  | [] => d
  | n :: ns => ns.foldl max n
def rExtD (K : PySem.W.Frag) (f : Int → List Int → Int) : List V → List V → Hp → VK → Prop := fun vs zs H Q => ∃ (a : Addr) (ns : List Int) (d : Int), vs = [.ref a] ∧ zs = [.int d] ∧ SqL K H a (ns.map V.int) ∧ Q (.int (f d ns)) H
theorem cr_minD {X : Cx} (hu : X.A.units + 64 < cLine) (hc : X.calm = true := by rfl) : CallRK X (.builtin "min") [Str.ofString "default"] (rExtD X.K minZ) := by
  intro pins s σ H xs zs us ws Q I r r2 h
  obtain ⟨a, ns, d, rfl, rfl, hs, q⟩ := h
  obtain ⟨its, rv, hl, _⟩ := I.list hs
  rw [Vals.ref1 r]
  cases r2 with
  | @cons _ w0 _ wr rd rt =>
    cases rt
    obtain ⟨t, rfl⟩ := (show ∃ t, w0 = Value.int d t from rd)
    show wpAny _ _ (call (.builtin "min") [.ref a] [(Str.ofString "default", Value.int d t)]) _ _ _
    refine PySem.W.min_list_default (I.ok.hd hc) hl.isList (reads_ints (by simpa using rv)) (alike_ints ns) (by rw [depth_ints]; omega) (fun he h' tk hk => ?_) (fun y ys i v h' tk bs he hv hr hk => ?_)
    · have e : ns = [] := List.map_eq_nil_iff.mp he
      subst e
      exact ⟨.int d, H, I.kept hk, ⟨t, rfl⟩, q⟩
    · cases ns with
      | nil => cases he
      | cons n l =>
        have he' := List.cons.inj he
        rw [← he'.1, ← he'.2, PySem.W.minD_ints] at hr
        cases hr with
        | int _ k => exact ⟨.int _, H, I.kept hk, ⟨k, rfl⟩, q⟩
theorem cr_maxD {X : Cx} (hu : X.A.units + 64 < cLine) (hc : X.calm = true := by rfl) : CallRK X (.builtin "max") [Str.ofString "default"] (rExtD X.K maxZ) := by
  intro pins s σ H xs zs us ws Q I r r2 h
  obtain ⟨a, ns, d, rfl, rfl, hs, q⟩ := h
  obtain ⟨its, rv, hl, _⟩ := I.list hs
  rw [Vals.ref1 r]
  cases r2 with
  | @cons _ w0 _ wr rd rt =>
    cases rt
    obtain ⟨t, rfl⟩ := (show ∃ t, w0 = Value.int d t from rd)
    show wpAny _ _ (call (.builtin "max") [.ref a] [(Str.ofString "default", Value.int d t)]) _ _ _
    refine PySem.W.max_list_default (I.ok.hd hc) hl.isList (reads_ints (by simpa using rv)) (alike_ints ns) (by rw [depth_ints]; omega) (fun he h' tk hk => ?_) (fun y ys i v h' tk bs he hv hr hk => ?_)
    · have e : ns = [] := List.map_eq_nil_iff.mp he
      subst e
      exact ⟨.int d, H, I.kept hk, ⟨t, rfl⟩, q⟩
    · cases ns with
      | nil => cases he
      | cons n l =>
        have he' := List.cons.inj he
        rw [← he'.1, ← he'.2, PySem.W.maxD_ints] at hr
        cases hr with
        | int _ k => exact ⟨.int _, H, I.kept hk, ⟨k, rfl⟩, q⟩
theorem x_ckw {r : List V → List V → Hp → VK → Prop} {t tk : TA} {σ : L2.St} {H : Hp} {Q : VK} (h : t σ H fun vs H1 => tk σ H1 fun zs H2 => r vs zs H2 Q) : tCKw r t tk σ H Q := h
theorem x_extD {K : PySem.W.Frag} {f : Int → List Int → Int} {H : Hp} {Q : VK} {a : Addr} {ns : List Int} {d : Int} (h : SqL K H a (ns.map V.int)) (q : Q (.int (f d ns)) H) : rExtD K f [.ref a] [.int d] H Q := ⟨a, ns, d, rfl, rfl, h, q⟩
/-- C.__init__(self, ..), C an own class -/
structure CInit (K : PySem.W.Frag) (C f : Addr) : Prop where
  ga : PySem.W.specialIn K (.ref C) "__getattribute__" = some (some (.builtin "type.__getattribute__"))
  rd : PySem.W.readsIn K C (.type "type") = true
  fd : PySem.W.findCls K (.ref C) (.type "type") "__init__" = some (.val (.ref f))
theorem pe_cinit {X : Cx} {CX : CXT} {k : Nat} {f : Addr} {fd : FuncData} {ps : List Str} {sp : Sp} {E : L2.St → XK} {pl : Sem Bool} {x : Str} {C : Addr} {e : Expr} {es : List Expr} {t : TA} {p1 p2 pos : Pos} (w : CInit X.K C f) (F : FnOk X.prog X.w X.K X.mg X.base CX k f fd ps sp) (hr : Room k X.A)
    (hg : Gl X x) (hm : X.mg x = some (.ref C)) (hk : PySem.W.keepIn X.K (.ref f) = true) (hb : Binds X.K fd ps []) (hx : ∀ σ, PassesAt CX X σ (E σ)) (ha : PA X (e :: es) t) (hdb : (x == ("__debug__" : Str)) = false := by decide)
    (hc : eval (.Call (.Attribute (.Name x p1) "__init__" p2) (e :: es) [] pos) X.env = (do
      let ov ← eval (.Name x p1) X.env
      standAt p2.atName
      let (f, first) ← holding [ov] (getMethod ov "__init__" pl)
      callWith pos f first (backTo pos (starEach (e :: es) X.env)) (backToKw pos (keywordEach [] X.env))) := by rfl)
    (he : starEach (e :: es) X.env = (false, eval e X.env) :: starEach es X.env := by rfl) (hpl : (backTo pos (starEach es X.env)).any (·.1) = false := by rfl) :
    PE X (.Call (.Attribute (.Name x p1) "__init__" p2) (e :: es) [] pos) (tCallS sp E t) := by
  refine ⟨fun pins s σ H Q I h => ?_⟩
  refine PySem.W.methodCall_KW (ld_glob I hg hm ?_ hdb) hc
  refine PySem.W.method_cls I.kIn w.ga (PySem.W.cls_value I.kIn w.rd w.fd rfl ?_)
  refine PySem.W.callWith_K (first := []) (h₀ := X.base) I.ok.mod.kin hk (thn (ha.run pos pins _ σ H _ (I.tok _) h) fun us s1 ⟨vs, H1, I1, r, q⟩ => ⟨I1.kIn, ?_⟩) he hpl
  exact run_fnS F hr hb (hx σ) I1 r q
end
/-! isinstance(x, C) of an own instance -/
structure InsC (K : PySem.W.Frag) (C : Addr) : Prop where
  ha : PySem.W.findIn K (.ref C) "__class__" = some (some (.builtin "object.__class__"))
  hn : PySem.W.specialIn K (.builtin "object.__class__") "__get__" = some (some (.builtin "getset_descriptor.__get__"))
  ht : PySem.W.takesIn K (.builtin "object.__class__") = some true
  hm : PySem.W.mroIn K C (.type "object") = some true
theorem x_isI {K : PySem.W.Frag} {H : Hp} {Q : VK} {a C D dx : Addr} {fs : List (Str × V)} {b : Bool} (ho : H a = some (.ins C dx fs)) (hc : Cls K C) (i : InsC K C) (hk : PySem.W.kitOne K (.ref C) (.ref D) = some b) (q : Q (.bl b) H) : uIsi K [.ref a, .ref D] H Q :=
  ⟨.ref a, .ref D, .ref C, .ref D, b, rfl, .own D, .base (.ins ho hc i.ha i.hn i.ht i.hm), hk, q⟩
/-! ### a caught exception as an object that is tracked -/
section
/-- the object at a is oe -/
def PinO (a : Addr) (oe : Obj) : HO := .ext fun h => h.get? a = some oe
theorem pinO_ok {P : Program} {w : World} {H : Hp} {h : Heap} {a : Addr} {oe : Obj} (e : h.get? a = some oe) : ObjOk P w H h a (PinO a oe) := ⟨e, ⟨oe, e⟩, fun _ _ q k => k oe q⟩
/-- an exception of the class cls, its own dict at d -/
def ExV (H : Hp) (a : Addr) (cls : Value) (d : Option Addr) : Prop := ∃ oe, H a = some (PinO a oe) ∧ Zc cls d oe ∧ ∃ vs, oe.data = .fields vs
theorem ExV.mono {H H' : Hp} {a : Addr} {cls : Value} {d : Option Addr} (s : Same H H') (h : ExV H a cls d) : ExV H' a cls d := by
  obtain ⟨oe, e, r⟩ := h
  exact ⟨oe, s _ _ e, r⟩
variable {X : Cx} {pins : List (Addr × Obj)} {σ : L2.St} {H : Hp} {s sI : Shared}
theorem _root_.L2.Inv.track {a : Addr} {oe : Obj} {vs : Array Value} (J : Inv X pins σ H sI) (J4 : Inv X pins σ H s) (hx : X.ex = []) (hn : sI.heap.get? a = none) (na : H a = none) (ha : s.heap.get? a = some oe) (hd : oe.data = .fields vs) (nL : a ≠ X.env.locals) :
    Inv X pins σ (upd H a (PinO a oe)) s := by
  have ne : ∀ {b : Addr} {o : Obj}, sI.heap.get? b = some o → b ≠ a := fun e z => by
    rw [z, hn] at e
    cases e
  have n0 : ∀ {b : Addr} {o : Obj}, X.s_0.heap.get? b = some o → b ≠ a := fun {b o} e => by
    obtain ⟨o', e'⟩ := J.base.there b o e (by rw [hx]; exact fun z => nomatch z)
    exact ne e'
  have keep : ∀ {b : Addr} {u : HO}, H b = some u → upd H a (PinO a oe) b = some u := fun e => by
    rw [upd_ne (ne_of_none e na)]
    exact e
  refine ⟨J4.ok, J4.os, J4.bare, ⟨J4.base.keep, J4.base.slot, fun b o e n hq => ?_, J4.base.there, fun b xs e => keep (J4.base.tups b xs e), fun b o u e => keep (J4.base.frzs b o u e), fun b ps e => ?_⟩, J4.loc, J4.cell, ?_, fun x c e => ?_, fun p hp => ?_, J4.hok.laidN (fun _ _ e => e) na (pinO_ok ha), J4.len⟩
  · rw [upd_ne (n0 e)]
    exact J4.base.free b o e n hq
  · obtain ⟨m, q⟩ := J4.base.tbls b ps e
    exact ⟨m, keep q⟩
  · rw [upd_ne (Ne.symm nL)]
    exact J4.free
  · have hc : c ≠ a := fun z => by
      obtain ⟨v, o, ho, hv⟩ := J4.cell x c e
      rw [z, ha] at ho
      cases ho
      rw [hd] at hv
      cases hv
    rw [upd_ne hc]
    exact J4.freeC x c e
  · obtain ⟨e, n, r⟩ := J4.pin p hp
    have hp' : p.1 ≠ a := ne (J.pin p hp).1
    exact ⟨e, by rw [upd_ne hp']; exact n, r⟩
theorem _root_.L2.Inv.suiteN (I : Inv X pins σ H s) {a : Addr} : Inv (X.suite a (X.pn ++ pins)) [] σ H s :=
  ⟨I.ok.suite _ _, I.os, I.bare, I.base, I.loc, I.cell, I.free, I.freeC, fun p hp => I.pin p (by rw [List.append_nil] at hp; exact hp), I.hok, I.len⟩
theorem _root_.L2.Inv.unsuiteN {a : Addr} {pn' : List (Addr × Obj)} (I : Inv (X.suite a (X.pn ++ pins)) pn' σ H s) (ok : X.Ok) : Inv X pins σ H s :=
  ⟨ok, I.os, I.bare, I.base, I.loc, I.cell, I.free, I.freeC, fun p hp => I.pin p (List.mem_append_left _ hp), I.hok, I.len⟩
end
section
variable {X : Cx} {x n : Str} {c : Value} {i : Nat} {body suite : List Stmt} {b₀ : Stmt} {np pos pos' : Pos} {tb : WX → TS} {ts : TS} {Wout : WX}
def wAsK (K : PySem.W.Frag) (c : Value) (i : Nat) (ts : TS) (Wout : WX) (D : Ends) : WX := fun cls d σ H =>
  ∃ b, PySem.W.exmOne K cls c = some b ∧ (b = true → ∀ a oe, H a = none → Zc cls d oe → (∃ vs, oe.data = .fields vs) → ts { nx := fun σ' H' => D.nx (σ'.set i none) H', rt := D.rt, bk := fun σ' H' => D.bk (σ'.set i none) H', ct := fun σ' H' => D.ct (σ'.set i none) H' } (σ.set i (some (.ref a))) (upd H a (PinO a oe))) ∧
    (b = false → Wout cls d σ H)
def tTryK (K : PySem.W.Frag) (c : Value) (i : Nat) (tb : WX → TS) (ts : TS) (Wout : WX) : TS := fun D σ H => tb (wAsK K c i ts Wout D) D σ H
theorem ps_tryK (hs : X.stack = X.env :: X.outer) (hf : X.env.frame = some X.env.locals) (hex : X.ex = []) (hN : X.N.Nodup) (hi : X.N[i]? = some n) (hln : X.env.kindOf n = some .local) (hc : Names X x c) (tk : Takes X Wout)
    (hb : ∀ (W : WX) (pn : List (Addr × Obj)) (xe : Value → Shared → Prop), Takes (X.tr pn xe) W → PassesOwn (model X.prog X.w) X.A X.env xe → PSs (X.tr pn xe) body (tb W))
    (hsu : ∀ (a : Addr) (pn : List (Addr × Obj)), PSs (X.suite a pn) (b₀ :: suite) ts) :
    PS X (.Try body [.ExceptHandler (some (.Name x np)) (some n) (b₀ :: suite) pos'] [] [] pos) (tTryK X.K c i tb ts Wout) := by
  refine ⟨fun pins s σ H D I h => ?_⟩
  have ok := I.ok
  have hfr : X.A.frames = some (X.env :: X.outer) := by rw [ok.frames, hs]
  have hloc : Loc X.env.scope n := .inl hln
  refine wpAny_Try_except ?_
  refine wpAny_mono ((hb (wAsK X.K c i ts Wout D) (X.pn ++ pins) (fun e s₁ => wpAny (model X.prog X.w) X.A (noteFrame e X.env) (fun _ s₂ => wpAny (model X.prog X.w) X.A (setFlight e none) (fun _ s₃ =>
    wpAny (model X.prog X.w) X.A (handleBy e X.env [.ExceptHandler (some (.Name x np)) (some n) (b₀ :: suite) pos']) (SP X pins D) X.xe s₃) X.xe s₂) X.xe s₁) (fun u s' xx => ?_) PassesOwn.looking).run [] s σ H D (I.toTry _) h) (fun f s1 hsp => ?_) (fun e s1 he => he)
  · -- the catch
    obtain ⟨a, B, sI, pins', σ', H', cls, d, rfl, J', nb, up, sky, na, os, ag, b, hb1, hyes, hno⟩ := xx
    have J : Inv X pins σ' H' sI := J'.ofTry ok
    have sky' : Sky B (X.env :: X.outer) a (Zc cls d) X.env.locals s'.heap := by rw [← hs]; exact sky
    show wpAny (model X.prog X.w) X.A (noteFrame (.ref a) X.env) _ _ _
    refine Sky.land Zc.steady hfr hf sky' fun h3 fl3 up3 => ?_
    have J3 : Inv X pins σ' H' { s' with heap := h3 } := J.landed nb fl3.1 (up.trans up3) os ag
    obtain ⟨oe3, vs3, he3, hz3, hd3⟩ := fl3.there
    have notFr : ∀ {h : Heap} {o : Obj} {vs : Array Value}, h.FunFrames B (X.env :: X.outer) → h.get? a = some o → o.data = .fields vs → a ∉ frs (X.env :: X.outer) := fun {h o vs} ff e dd hm => by
      obtain ⟨_, o', e', hnf⟩ := ff.mem hm
      rw [e] at e'; cases e'
      exact hnf _ dd
    have nfr := notFr fl3.2.2.1 he3 hd3
    have hnI : sI.heap.get? a = none := by
      cases e : sI.heap.get? a with
      | none => rfl
      | some o =>
        have q := nb a o e (by rw [hs]; exact nfr)
        rw [fl3.2.1] at q
        cases q
    have nL : a ≠ X.env.locals := fun z => nfr (List.mem_filterMap.mpr ⟨X.env, List.mem_cons_self, by rw [hf, z]⟩)
    have nF : a ∉ X.fs := fun hm => by
      obtain ⟨e, he, q⟩ := List.mem_filterMap.mp hm
      exact nfr (List.mem_filterMap.mpr ⟨e, List.mem_cons_of_mem _ he, q⟩)
    have S3 := J3.suite he3 hd3 na nL nF
    refine wpAny_handleBy_cons (codeAny_handlers_test ?_) (by intro q; cases q)
    have LT : PySem.W.Looks (model X.prog X.w) h3 (typeOf (.ref a)) cls := fun A Q E s k q => wpAny_typeOf_ref (k _ _ he3) (by rw [hz3.1]; exact q)
    have LM := PySem.W.exm_one (M := model X.prog X.w) (J3.kIn) LT hb1
    have test : ∀ {Q : Value → Shared → Prop} {E : Value → Shared → Prop}, Q c { s' with heap := h3 } → wpAny (model X.prog X.w) (X.A.mark (some (.ref a))) (eval (.Name x np) X.env) Q E { s' with heap := h3 } := fun {Q E} q => by
      obtain ⟨hg, hdbg, hm | ⟨hm, hv, hnn⟩⟩ := hc
      · exact ld_glob (X := X.suite a ((a, oe3) :: (X.pn ++ pins))) S3 hg hm q hdbg
      · exact ld_blt (X := X.suite a ((a, oe3) :: (X.pn ++ pins))) S3 hg hm hv q hnn hdbg
    refine test (LM.here ?_)
    cases b with
    | true =>
      refine codeAny_handlers_suite_as ?_
      refine HandSPX.lands_againZ fl3 fun h4 fl4 up4 => ?_
      have J4 : Inv X pins σ' H' { s' with heap := h4 } := J.landed nb fl4.1 ((up.trans up3).trans up4) os ag
      obtain ⟨oe4, vs4, he4, hz4, hd4⟩ := fl4.there
      have S4 := (J.track J4 hex hnI na he4 hd4 nL).suiteN (a := a)
      refine store_ok (X := X.suite a (X.pn ++ pins)) (v := .ref a) S4 hN hi hloc rfl (fun s5 S5 => ?_) (.inr hln)
      refine wpAny_mono ((hsu a (X.pn ++ pins)).run [] s5 _ _ _ S5 (hyes rfl a oe4 na hz4 ⟨_, hd4⟩)) (fun f s6 hsp => ?_) (fun _ _ z => False.elim z)
      have end_ : ∀ {σ6 : L2.St} {H6 : Hp} {Q : Shared → Prop}, Inv (X.suite a (X.pn ++ pins)) [] σ6 H6 s6 → (∀ s7, Inv X pins (σ6.set i none) H6 s7 → Q s7) →
          wpAny (model X.prog X.w) X.A (do bindName X.env n .none; unbindBehindTheSuite X.env n pos') (fun _ s7 => Q s7) X.xe s6 := fun {σ6 H6 Q} S6 hq => gone_ok (S6.unsuiteN ok) hN hi hln hq
      cases f with
      | next =>
        obtain ⟨σ6, H6, S6, q6⟩ := hsp
        exact end_ S6 fun s7 J7 => ⟨_, _, J7, q6⟩
      | brk =>
        obtain ⟨σ6, H6, S6, q6⟩ := hsp
        exact end_ S6 fun s7 J7 => ⟨_, _, J7, q6⟩
      | cont =>
        obtain ⟨σ6, H6, S6, q6⟩ := hsp
        exact end_ S6 fun s7 J7 => ⟨_, _, J7, q6⟩
      | ret u =>
        obtain ⟨v6, σ6, H6, S6, r6, q6⟩ := hsp
        exact end_ S6 fun s7 J7 => ⟨_, _, _, J7, r6, q6⟩
    | false =>
      show wpAny _ X.A (handleBy (.ref a) X.env []) _ _ _
      refine wpAny_handleBy_nil ?_
      obtain ⟨k1, k2, k3, oe, vs, T, oT, ts', he, hz, hd, h1, hr⟩ := id fl3
      unfold PySem.passOn
      refine wpAny_bind (wpAny_field he hd h1 ?_)
      rw [if_neg (show ¬ ((Value.ref T == Value.none) = true) from by simp)]
      have fin : wpAny (model X.prog X.w) X.A (setFlight (.ref a) X.env.frame) (fun _ s4 => wpAny (model X.prog X.w) X.A (throw (.ref a) : Sem Flow) (SP X pins D) X.xe s4) X.xe { s' with heap := h3 } := by
        rw [hf]
        refine HandSPX.setFlight_upZ fl3 fun h4 hh4 up4 => wpAny_throw (tk _ _ ?_)
        exact ⟨a, B, sI, pins, σ', H', cls, d, rfl, J, nb, (up.trans up3).trans up4, .inr (.inr (by rw [hs]; exact hh4)), na, os, ag, hno rfl⟩
      first
        | exact wpAny_bind (wpAny_pure (wpAny_bind fin))
        | exact wpAny_bind fin
  · cases f with
    | next =>
      obtain ⟨σ', H', J', q⟩ := hsp
      exact wpAny_execs_nil ⟨σ', H', J'.ofTry ok, q⟩
    | brk =>
      obtain ⟨σ', H', J', q⟩ := hsp
      exact ⟨σ', H', J'.ofTry ok, q⟩
    | cont =>
      obtain ⟨σ', H', J', q⟩ := hsp
      exact ⟨σ', H', J'.ofTry ok, q⟩
    | ret u =>
      obtain ⟨v, σ', H', J', r, q⟩ := hsp
      exact ⟨v, σ', H', J'.ofTry ok, r, q⟩
variable {K : PySem.W.Frag} {D : Ends} {σ : L2.St} {H : Hp} {cls : Value} {d : Option Addr}
theorem x_tryK (h : tb (wAsK K c i ts Wout D) D σ H) : tTryK K c i tb ts Wout D σ H := h
theorem x_seqTK {u : TS} (h : tTryK K c i tb ts Wout { D with nx := u D } σ H) : tSeq (tTryK K c i tb ts Wout) u D σ H := h
theorem x_asKT (hx : PySem.W.exmOne K cls c = some true)
    (q : ∀ a H1, H a = none → Same H H1 → ExV H1 a cls d → ts { nx := fun σ' H' => D.nx (σ'.set i none) H', rt := D.rt, bk := fun σ' H' => D.bk (σ'.set i none) H', ct := fun σ' H' => D.ct (σ'.set i none) H' } (σ.set i (some (.ref a))) H1) : wAsK K c i ts Wout D cls d σ H :=
  ⟨true, hx, fun _ a oe na hz hd => q a _ na (same_upd na) ⟨oe, upd_same, hz, hd⟩, fun z => nomatch z⟩
theorem x_asKF (hx : PySem.W.exmOne K cls c = some false) (q : Wout cls d σ H) : wAsK K c i ts Wout D cls d σ H := ⟨false, hx, (fun z => nomatch z), fun _ => q⟩
end
/-! a def that is called in an except suite -/
section
open L2H
structure FnS (P : Program) (w : World) (K : PySem.W.Frag) (mg : Str → Option Value) (base : Heap) (CX : CXT) (k : Nat) (f : Addr) (fd : FuncData) (ps : List Str) (sp : Sp) : Prop where
  len : ∀ vs H Q E, sp vs H Q E → vs.length = ps.length
  run : ∀ (A : Around) (outer : List Env) (s : Shared) (H : Hp) (args : Args) (us : List Value) (vs : List V) (Q : VK) (E : XK), RoomH k A → Env0 P w K mg base A outer s H → BindsTo s fd args (ps.zip us) → Vals vs us → sp vs H Q E →
    codeAny (model P w) A (.call (.ref f) args) (CR CX outer P w H s Q E) s
theorem _root_.L2.Fun.okS {P : Program} {w : World} {K : PySem.W.Frag} {mg : Str → Option Value} {base : Heap} {x qual : Str} {st : Stmt} {f : Addr} {fd : FuncData} {N ps : List Str} {k : Nat} {sp : Sp} (F : Fun K x qual st f fd) (S : FnScope N ps (defScope st)) (len : ∀ vs H Q E, sp vs H Q E → vs.length = ps.length)
    (hbody : ∀ (cdv : Value) (A : Around) (outer : List Env) (s : Shared) (H : Hp) (vs : List V) (Q : VK) (E : XK) (p : Addr × Obj), RoomH k (A.deeper (envOfC qual (defScope st) s.heap.objs.size f cdv)) → sp vs H Q E →
      ∃ t, PSs (cxH (L2.CX P w) P w K mg base N qual (defScope st) f cdv A outer s H E p) (defBody st) t ∧ t { nx := fun _ H' => Q .non H', rt := Q } (L2.start N vs) H) : FnS P w K mg base (L2.CX P w) (k + 1) f fd ps sp := by
  obtain ⟨oc, od, kV, doc, pm, an, cdv, ct, osl, rfl, lk, hcd⟩ := F.ex
  refine ⟨len, fun A outer s H args us vs Q E hr e0 hb r hsp => ?_⟩
  have hl := len _ _ _ _ hsp
  have KX : K.In s.heap := e0.mod.kin.keeps fun b o e => (e0.bs b o e).1
  have lim : s.heap.NoLimit := e0.mod.nolimit.keeps fun b o e => (e0.bs b o e).1
  have hkind : ∀ y ∈ ps.zip us, (defScope st).names.lookup y.1 = some .local ∨ ((defScope st).names.lookup y.1 = some .cell ∧ ((cellsFrom (s.heap.objs.size + 1) (defScope st).names []).lookup y.1).isSome = true) := fun ⟨n, v⟩ hy => by
    rcases S.par n (List.of_mem_zip hy).1 with q | q
    · exact .inl q
    · exact .inr ⟨q, PySem.W.cellsFrom_some _ _ _ (.inl q)⟩
  have hfb := e0.mod.kin _ _ lk
  have hpin : PinOk outer H s (f, ⟨oc, od, .func (PySem.W.fnOf x qual (defArgs st) (defBody st) (defScope st) .none kV doc pm an cdv ct), osl⟩) := ⟨(e0.bs _ _ hfb).1, (e0.bs _ _ hfb).2, fun hm => (by
    have := (e0.funs.mem hm).1
    rw [hfb] at this
    cases this), fun v z => (by cases z)⟩
  refine codeAny_call_function hr.depth (KX _ _ lk) rfl S.co S.gen rfl (PySem.W.codeRec_of KX hcd) (hb _ _ _ _ ?_)
  refine wpAny_newFunctionEnv_cells S.kind hkind fun env he s1 y => ?_
  subst he
  refine ⟨lim.keeps y.toInCall.keep, codeAny_func ?_⟩
  obtain ⟨t, ht, hq⟩ := hbody cdv A outer s H vs Q E _ (hr.deeper _) hsp
  have I := inv_startH (CX := L2.CX P w) (N := N) (E := E) S hpin e0 hl r y
  refine wpAny_mono (ht.run [] s1 (L2.start N vs) H _ I hq) (fun fl s' hs => ?_) fun e s' hs => hs
  have fin : ∀ {σ' : L2.St} {H' : Hp} {v : V} {u : Value}, Inv (cxH (L2.CX P w) P w K mg base N qual (defScope st) f cdv A outer s H E (f, ⟨oc, od, .func (PySem.W.fnOf x qual (defArgs st) (defBody st) (defScope st) .none kV doc pm an cdv ct), osl⟩)) [] σ' H' s' → L2.RelV v u → Q v H' → CE outer P w H s Q u s' :=
    fun {σ' H' v u} J rv q => ⟨v, H', J.os, J.bare, J.base, J.hok, rv, q⟩
  cases fl with
  | ret u =>
    obtain ⟨v, σ', H', J, rv, q⟩ := hs
    exact fin J rv q
  | next =>
    obtain ⟨σ', H', J, q⟩ := hs
    exact fin (v := V.non) (u := Value.none) J rfl q
  | brk =>
    obtain ⟨_, _, _, q⟩ := hs
    exact False.elim q
  | cont =>
    obtain ⟨_, _, _, q⟩ := hs
    exact False.elim q
variable {X : Cx} {CX : CXT} {k : Nat} {f : Addr} {fd : FuncData} {ps : List Str} {sp : Sp} {E : L2.St → XK} {x : Str} {q pos : Pos} {e : Expr} {es : List Expr} {t : TA}
theorem pe_callSu (F : FnS X.prog X.w X.K X.mg X.base CX k f fd ps sp) (hr : RoomH k X.A) (hg : Gl X x) (hm : X.mg x = some (.ref f)) (hk : PySem.W.keepIn X.K (.ref f) = true) (hb : Binds X.K fd ps []) (hx : ∀ σ, PassesAt CX X σ (E σ))
    (ha : PA X (e :: es) t) (hdb : (x == ("__debug__" : Str)) = false := by decide) (he : starEach (e :: es) X.env = (false, eval e X.env) :: starEach es X.env := by rfl) (hpl : (backTo pos (starEach es X.env)).any (·.1) = false := by rfl) :
    PE X (.Call (.Name x q) (e :: es) [] pos) (tCallS sp E t) := by
  refine ⟨fun pins s σ H Q I h => ?_⟩
  refine wpAny_Call_Name_kw (ld_glob I hg hm ?_ hdb)
  refine PySem.W.callWith_K (h₀ := X.base) I.ok.mod.kin hk (thn (ha.run pos pins s σ H _ I h) fun us s1 ⟨vs, H1, I1, r, q⟩ => ⟨I1.kIn, ?_⟩) he hpl
  have hl : us.length = ps.length := by rw [← r.length]; exact F.len _ _ _ _ q
  have b := hb s1 us I1.kIn (by rw [List.append_nil]; exact hl)
  rw [List.append_nil] at b
  refine wpAny_call (codeAny_mono (F.run X.A X.stack s1 H1 ⟨us, []⟩ us vs Q (E σ) hr I1.env0 b r q) fun r s' hq => ?_)
  cases r with
  | error e => exact hx σ pins H1 s1 e s' I1 hq
  | ok fl =>
    cases fl with
    | ret u => exact I1.after hq
    | next => exact False.elim hq
    | brk => exact False.elim hq
    | cont => exact False.elim hq
abbrev FS (P : Program) (w : World) (K : PySem.W.Frag) (mg : Str → Option Value) (base : Heap) := FnS P w K mg base (L2.CX P w)
/-- isinstance(e, c), e an exception without fields that is tracked -/
def rIsV (K : PySem.W.Frag) : List V → Hp → VK → Prop := fun xs H Q => ∃ (a E : Addr) (c : V) (cv : Value) (b : Bool), xs = [.ref a, c] ∧ ExV H a (.ref E) none ∧ ExcC K E ∧ (∀ u, RelV c u → u = cv) ∧ PySem.W.kitOne K (.ref E) cv = some b ∧ Q (.bl b) H
theorem cr_isV : CallR X (.builtin "isinstance") (rIsV X.K) := by
  intro pins s σ H xs us Q I r h
  obtain ⟨a, E, c, cv, b, rfl, ⟨oe, ha, hz, hf⟩, C, hcv, e, q⟩ := h
  cases r with
  | cons rx rr =>
    cases rr with
    | cons rt rr =>
      cases rr
      cases rx
      have ec := hcv _ rt
      subst ec
      have hget : s.heap.get? a = some oe := (show ObjOk X.prog X.w H s.heap a (PinO a oe) from I.hok a _ ha).1
      obtain ⟨vs, hv⟩ := hf
      have J : PySem.W.InstAt s.heap a oe E none := by
        obtain ⟨oc, od, oda, osl⟩ := oe
        obtain ⟨h1, h2⟩ := hz
        dsimp only at h1 h2 hv
        subst h1 h2 hv
        exact ⟨hget, rfl, rfl, trivial⟩
      exact PySem.W.kia_one (PySem.W.handS_kitx_exc C.hg C.hk C.hs C.hd C.ha C.hn C.ht C.hm) I.kIn J e (fun z => nomatch z) fun tk => ⟨.bl b, H, I.kept (t' := tk) fun _ _ z => z, rfl, q⟩
variable {K : PySem.W.Frag} {H : Hp} {Q : VK} {a : Addr}
theorem _root_.L2.Room.suite {j k : Nat} {A : Around} {x : Option Value} (r : Room k A) (h : j ≤ k) : RoomH j (A.mark x) := ⟨(r.mono h).dp, (r.mono h).un⟩
theorem ExV.off1 {H H' : Hp} {a p : Addr} {cls : Value} {d : Option Addr} (s : Off [p] H H') (h : ExV H a cls d) (n : a ≠ p) : ExV H' a cls d := by
  obtain ⟨oe, e, r⟩ := h
  exact ⟨oe, s.at e (nin_of n), r⟩
theorem ExV.ne {H : Hp} {a p : Addr} {cls : Value} {d : Option Addr} (h : ExV H a cls d) (n : H p = none) : a ≠ p := by
  obtain ⟨oe, e, r⟩ := h
  exact ne_of_none e n
theorem x_isVC {E C : Addr} {b : Bool} (h : ExV H a (.ref E) none) (hE : ExcC K E) (hk : PySem.W.kitOne K (.ref E) (.ref C) = some b) (q : Q (.bl b) H) : rIsV K [.ref a, .ref C] H Q := ⟨a, E, _, .ref C, b, rfl, h, hE, fun _ z => z, hk, q⟩
theorem x_isVT {E : Addr} {t : String} {b : Bool} (h : ExV H a (.ref E) none) (hE : ExcC K E) (hk : PySem.W.kitOne K (.ref E) (.type t) = some b) (q : Q (.bl b) H) : rIsV K [.ref a, .ty t] H Q := ⟨a, E, _, .type t, b, rfl, h, hE, fun _ z => z, hk, q⟩
end
end Kit
/-! ### the head's facts, read by a Hook of one's own -/
namespace Kit
open PySem PySem.Spec PyProof.Rows L2
section
abbrev FnWK : Type := Bool × List He.FnW
/-- lists of numbers, a part of the heap: told when they are made -/
def frList {α : Type} : List Addr → (List Addr → α) → α
  | [], k => k []
  | a :: r, k => HandSHeadRun.frNat a fun a => frList r fun r => k (a :: r)
theorem frList_eq {α : Type} : ∀ (l : List Addr) (k : List Addr → α), frList l k = k l
  | [], _ => rfl
  | a :: r, k => by
    show HandSHeadRun.frNat a (fun a => frList r fun r => k (a :: r)) = _
    rw [HandSHeadRun.frNat_eq, frList_eq r]
def frFr {α : Type} (g : Addr → Option Obj) : List Addr → (PySem.W.Frag → α) → α
  | [], k => k []
  | a :: r, k => match g a with
    | some ⟨c, d, dt, sl⟩ => frFr g r fun F => k ((a, ⟨c, d, dt, sl⟩) :: F)
    | none => frFr g r k
theorem frFr_eq {α : Type} {g : Addr → Option Obj} : ∀ (l : List Addr) (k : PySem.W.Frag → α), frFr g l k = k (He.frG g l)
  | [], _ => rfl
  | a :: r, k => by
    unfold frFr He.frG
    rw [List.filterMap_cons]
    cases h : g a with
    | none => exact frFr_eq r k
    | some o =>
      obtain ⟨c, d, dt, sl⟩ := o
      exact frFr_eq r _
/-- a def: its place in the list of addresses, its text -/
structure DefK where
  i : Nat
  name : Str
  qual : Str
  params : Arguments
  body : List Stmt
  scope : Scope
  dfl : List He.Dv := []
def fnKW (K : PySem.W.Frag) (a : Addr) : He.FnW := match K.lookup a with
  | some ⟨_, _, .func fd, _⟩ => some (fd.name, fd.qualname, fd.params, fd.body, fd.scope, fd.globals, fd.closure, fd.builtins)
  | _ => none
def DefK.val (d : DefK) : He.FnW := some (d.name, d.qual, d.params, .stmts d.body, d.scope, mainGlobals, [], builtinsNs)
def DefK.dvs (K : PySem.W.Frag) (d : DefK) : List V := d.dfl.map (He.Dv.v K)
def DefK.ok (K : PySem.W.Frag) (A : List Addr) (d : DefK) : Bool := PySem.W.keepIn K (.ref (A.getD d.i 0)) && (match K.lookup (A.getD d.i 0) with
  | some ⟨_, _, .func fd, _⟩ => PySem.W.codeIn K fd.code d.qual && (He.dflB K fd.defaults (d.dvs K) && He.kwdB K fd.kwdefaults [])
  | _ => false)
theorem DefK.funD {K : PySem.W.Frag} {A : List Addr} {d : DefK} (e : fnKW K (A.getD d.i 0) = d.val) (c : d.ok K A = true) : ∃ fd, FunD K d.name d.qual d.params d.body d.scope (d.dvs K) [] (A.getD d.i 0) fd := by
  obtain ⟨kp, c2⟩ := He.ba c
  unfold fnKW at e
  cases q : K.lookup (A.getD d.i 0) with
  | none =>
    rw [q] at c2
    cases c2
  | some o =>
    obtain ⟨oc, od, dt, osl⟩ := o
    rw [q] at c2 e
    cases dt with
    | func fd =>
      obtain ⟨n1, n2, n3, n4, n5, n6, n7, n8, n9, n10, n11, n12, n13, n14, n15⟩ := fd
      have e2 : (some (n1, n2, n3, n4, n5, n6, n7, n15) : He.FnW) = some (d.name, d.qual, d.params, .stmts d.body, d.scope, mainGlobals, [], builtinsNs) := e
      simp only [Option.some.injEq, Prod.mk.injEq] at e2
      obtain ⟨h1, h2, h3, h4, h5, h6, h7, h8⟩ := e2
      subst h1 h2 h3 h4 h5 h6 h7 h8
      have c3 : (PySem.W.codeIn K n13 d.qual && (He.dflB K n8 (d.dvs K) && He.kwdB K n9 [])) = true := c2
      obtain ⟨k1, k2⟩ := He.ba c3
      obtain ⟨k3, k4⟩ := He.ba k2
      exact ⟨_, ⟨oc, od, n8, n9, n10, n11, n12, n13, n14, osl, rfl, q, k1, He.dflB_ok k3, He.kwdB_ok k4⟩, kp⟩
    | _ => cases c2
abbrev FsK : Type := PySem.W.Frag → List Addr → Bool
def obsK (fs : FsK) (fn : List DefK) (K : PySem.W.Frag) (A : List Addr) : FnWK := (fs K A && fn.all fun d => d.ok K A, fn.map fun d => fnKW K (A.getD d.i 0))
def valK (fn : List DefK) : FnWK := (true, fn.map DefK.val)
def SaysK (fs : FsK) (fn : List DefK) (K : PySem.W.Frag) (A : List Addr) : Prop := obsK fs fn K A = valK fn
def obsKG (ls : (Addr → Option Obj) → List Addr) (fs : FsK) (fn : List DefK) (g : Addr → Option Obj) : FnWK := frList (ls g) fun A => frFr g A fun K => obsK fs fn K A
theorem obsKG_is {ls : (Addr → Option Obj) → List Addr} {fs : FsK} {fn : List DefK} {g : Addr → Option Obj} : obsKG ls fs fn g = obsK fs fn (He.frG g (ls g)) (ls g) := by
  unfold obsKG
  rw [frList_eq, frFr_eq]
def hookK (ls : (Addr → Option Obj) → List Addr) (fs : FsK) (fn : List DefK) : PySem.W.Hook where
  α := FnWK
  obs := fun s => obsKG ls fs fn s.heap.get?
  val := fun _ => valK fn
  says := fun _ h => ∃ (K : PySem.W.Frag) (A : List Addr), K.In h ∧ SaysK fs fn K A
  of := fun _ _ e => ⟨_, _, He.frG_in, obsKG_is.symm.trans e⟩
  keeps := fun _ _ _ ⟨K, A, hK, c⟩ k => ⟨K, A, PySem.W.Frag.In.keeps hK k, c⟩
theorem obsKG_eq {ls : (Addr → Option Obj) → List Addr} {fs : FsK} {fn : List DefK} {g : Addr → Option Obj} {s : Shared} (h : ∀ a, g a = s.heap.get? a) : obsKG ls fs fn g = (hookK ls fs fn).obs s := by
  have e : g = s.heap.get? := funext h
  rw [e] <;> rfl
variable {fs : FsK} {fn : List DefK} {K : PySem.W.Frag} {A : List Addr}
theorem SaysK.facts (c : SaysK fs fn K A) : fs K A = true := (He.ba (show (fs K A && fn.all fun d => d.ok K A) = true from congrArg (fun z : FnWK => z.1) c)).1
theorem SaysK.def_ (c : SaysK fs fn K A) (i : Nat) {d : DefK} (h : fn[i]? = some d := by rfl) : ∃ fd, FunD K d.name d.qual d.params d.body d.scope (d.dvs K) [] (A.getD d.i 0) fd := by
  have c2 := (He.ba (show (fs K A && fn.all fun d => d.ok K A) = true from congrArg (fun z : FnWK => z.1) c)).2
  have e : fn.map (fun d => fnKW K (A.getD d.i 0)) = fn.map DefK.val := congrArg (fun z : FnWK => z.2) c
  have e2 : (fn.map fun d => fnKW K (A.getD d.i 0))[i]? = (fn.map DefK.val)[i]? := by rw [e]
  rw [List.getElem?_map, List.getElem?_map, h] at e2
  exact DefK.funD (Option.some.inj e2) (List.all_eq_true.mp c2 d (List.mem_of_getElem? h))
/-! addresses of the program's objects -/
def gK (g : Addr → Option Obj) (x : Str) : Addr := match PySem.W.nsIn (He.frG g [mainGlobals]) mainGlobals x with
  | some (some (.ref a)) => a
  | _ => 0
def nsK (g : Addr → Option Obj) (a : Addr) : Addr := match g a with
  | some ⟨_, _, .cls cd, _⟩ => cd.ns
  | _ => 0
def mK (g : Addr → Option Obj) (c m : Str) : Addr := match PySem.W.nsIn (He.frG g [nsK g (gK g c)]) (nsK g (gK g c)) m with
  | some (some (.ref a)) => a
  | _ => 0
def cdK (g : Addr → Option Obj) (a : Addr) : Addr := match g a with
  | some ⟨_, _, .func fd, _⟩ => (match fd.code with
    | .ref b => b
    | _ => 0)
  | _ => 0
def dfK (g : Addr → Option Obj) (a : Addr) : Addr := match g a with
  | some ⟨_, _, .func fd, _⟩ => (match fd.defaults with
    | .ref b => b
    | _ => 0)
  | _ => 0
/-- what a class finds, as one Bool -/
def fclB (o : Option PySem.W.CFound) (v : Value) : Bool := match o with
  | some (.val u) => decide (u = v)
  | _ => false
theorem fclB_ok {o : Option PySem.W.CFound} {v : Value} (h : fclB o v = true) : o = some (.val v) := by
  unfold fclB at h
  split at h
  · rw [of_decide_eq_true h]
  · cases h
theorem funK_of {x qual : Str} {st : Stmt} {f : Addr} {fd : FuncData} {kws : List (Str × V)} (F : FunD K x qual (defArgs st) (defBody st) (defScope st) [] kws f fd) : L2.Fun K x qual st f fd := by
  obtain ⟨oc, od, dV, kV, doc, pm, an, cdv, ct, osl, e, l, c, hd, _⟩ := F.ex
  rcases hd with ⟨_, e2⟩ | ⟨e2, _⟩
  · subst e2
    exact ⟨⟨oc, od, kV, doc, pm, an, cdv, ct, osl, e, l, c⟩, F.kp⟩
  · exact absurd rfl e2
/-- an exception class with an own __init__, as one Bool -/
def oexB (K : PySem.W.Frag) (C : Addr) : Bool := match K.lookup C with
  | some ⟨.type t, _, .cls cd, sl⟩ => decide (t = "type") && ((match cd.mro with
    | .ref D :: bm => decide (D = C) && PySem.HandSPX.refsVE bm
    | _ => false) && (cd.hasDict && (!cd.hasDel && (match sl.toList with
    | [_, _, _, _, some (.builtin s), _] => decide (s = "ValueError.__new__")
    | _ => false))))
  | _ => false
theorem oexB_ok {C : Addr} (h : oexB K C = true) : ∃ nm q N bs bm sn sub ab col dd k0 k1 k2 k3 k5, K.lookup C = some (excClassObj nm q C N bs bm true sn sub ab col dd k0 k1 k2 k3 k5 "ValueError.__new__") ∧ PySem.HandSPX.refsVE bm = true := by
  unfold oexB at h
  split at h
  · rename_i t dd cd sl hl
    obtain ⟨h1, h⟩ := He.ba h
    obtain ⟨h2, h⟩ := He.ba h
    obtain ⟨h3, h⟩ := He.ba h
    obtain ⟨h4, h5⟩ := He.ba h
    obtain rfl : t = "type" := of_decide_eq_true h1
    obtain ⟨nm, bs, mro, ns, q, hd, sn, sub, ab, col, hdel⟩ := cd
    dsimp only at h2 h3 h4
    cases mro with
    | nil => cases h2
    | cons v bm =>
      cases v with
      | ref D =>
        obtain ⟨h6, h7⟩ := He.ba h2
        obtain rfl : D = C := of_decide_eq_true h6
        subst h3
        have h4 : hdel = false := by cases hdel <;> first | rfl | cases h4
        subst h4
        split at h5
        · rename_i k0 k1 k2 k3 s k5 hs
          obtain rfl : s = "ValueError.__new__" := of_decide_eq_true h5
          refine ⟨nm, q, ns, bs, bm, sn, sub, ab, col, dd, k0, k1, k2, k3, k5, ?_, h7⟩
          rw [hl]
          have es : sl = #[k0, k1, k2, k3, some (.builtin "ValueError.__new__"), k5] := by
            cases sl
            exact congrArg Array.mk hs
          rw [es]
        · cases h5
      | _ => cases h2
  · cases h
/-- what a module's name stands for -/
def gvK (K : PySem.W.Frag) (x : Str) : Value := match PySem.W.nsIn K mainGlobals x with
  | some (some v) => v
  | _ => .none
theorem walk_ofW {l : PySem.W.OpenLaw} {n k : Nat} {q : Program} {loose : List Str} {XP : (Str → Option Value) → Heap → Prop} {YP : World → Heap → Prop} {d : DefRec} {CX : World → CXT} {x : Str}
    (hn : l.most = some n) (hn2 : n ≤ sizeLine) (hdf : d.params.defaults = []) (hr : Room k callerA)
    (F : ∀ (w : World) (mg : Str → Option Value) (fa : Addr) (h : Heap), YP w h → h.Ns mainGlobals mg → mg d.name = some (.ref fa) →
      ∃ (K : PySem.W.Frag) (fd : FuncData) (sp : Sp), K.In h ∧ (∀ (s : Shared) (u : Value), BindsTo s fd ⟨[u], []⟩ [(x, u)]) ∧
        (∀ (H : Hp) (a : Addr) (ns : List Int), ns.length ≤ n → Only H → SqL K H a (ns.map V.int) → sp [.ref a] H (fun v _ => v = .bl true) fun _ _ _ => False) ∧
        ∀ base : Heap, K.In base → base.Ns mainGlobals mg → FnOk l.prog w K mg base (CX w) k fa fd [x] sp)
    (hCX : ∀ (w : World) (H : Hp) (s : Shared) (e : Value) (s' : Shared), CX w [] H s (fun _ _ _ => False) e s' → False) :
    PySem.W.WalkO q loose XP YP l.row.toRowW d [] (fun f vs => PySem.call f vs) := by
  refine Att.attach_call hn hdf fun w s₀ s₁ mg mb fa o pm cd doc a vs ns G Y ho hd hcd hmg hobj hints hlen hg => ?_
  obtain ⟨K, fd, sp, KX, hb, hsp, hF⟩ := F w mg fa _ Y G.T.g hmg
  exact law_call KX G.T.g G.T.b G.T.builtins G.T.nolimit hg hobj hints (Nat.le_trans hlen hn2) hr hF hb (fun H hO hS => hsp H a ns hlen hO hS) fun H e s' => hCX w H s₁ e s'
end
/-! ### a list comprehension in a def that is called in an except suite (my own rule; the kit's asks for calm) -/
section
open L2 L2H
abbrev blkH (X : Cx) (s : Shared) (H : Hp) (scope : Scope) (cenv : Env) (fp : List Addr) : Cx := { X.blk s H scope cenv fp with pn := X.pn }
variable {X : Cx} {pins : List (Addr × Obj)} {σ : L2.St} {H : Hp} {s : Shared}
theorem hotC_blk {scope : Scope} {cenv : Env} {fp : List Addr} {s0 : Shared} {H0 : Hp} (h : HotC X) : HotC (blkH X s0 H0 scope cenv fp) := h
theorem block_startH {scope : Scope} {own : List (Str × Nat)} {fp : List Addr} (I : Inv X pins σ H s) (ok : BlkOk X.N X.env.scope scope own) (hN : X.N.Nodup) (hfp : ∀ b ∈ fp, FpOk X pins H b ∧ b < s.heap.objs.size) :
    Inv (blkH X s H scope (compEnvC scope (cellsFrom (s.heap.objs.size + 1) scope.names (cloFrom X.env.cells scope.names [])) s.heap.objs.size X.env) fp) [] (wipe σ (own.map (·.2))) H { s with heap := pushCells (s.heap.push { cls := .type "dict", data := .dict #[] }) scope.names } := by
  have J := block_start I ok hN hfp
  have o := J.ok
  refine ⟨⟨o.mod, o.kind, o.glob, o.blt, o.above, o.inj, o.has, o.cab, o.hd, o.frames, o.stk, o.exf, o.bs, o.bsz, o.noex, o.exfs, o.funs, o.frf⟩, J.os, J.bare, J.base, J.loc, J.cell, J.free, J.freeC, fun q hq => ?_, J.hok, J.len⟩
  have hq : q ∈ X.pn ++ [] := hq
  rw [List.append_nil] at hq
  obtain ⟨g, hn, nl, nf, nc⟩ := I.pin q (List.mem_append_left _ hq)
  exact ⟨pushCells_keeps _ _ _ _ (Heap.get?_push_of_some _ g), hn, Nat.ne_of_lt (Heap.lt_size g), fun z => (List.mem_cons.mp (I.stkSub _ z)).elim nl nf, nc⟩
theorem pe_lcH {elt tg iter : Expr} {ifs : List Expr} {scope : Scope} {own : List (Str × Nat)} {pos : Pos} {wi : TI} {g : TG} {tt : TT} {te : TE} (hc : HotC X) (hN : X.N.Nodup) (hi : PIH X tg iter wi) (ok : BlkOk X.N X.env.scope scope own)
    (hg : ∀ (s : Shared) (H : Hp) (C : Addr) (cl : List (Str × Addr)) (fp : List Addr), PG (blkH X s H scope (compEnvC scope cl C X.env) fp) tg g) (ht : ∀ (s : Shared) (H : Hp) (C : Addr) (cl : List (Str × Addr)) (fp : List Addr), PTs (blkH X s H scope (compEnvC scope cl C X.env) fp) ifs tt)
    (he : ∀ (s : Shared) (H : Hp) (C : Addr) (cl : List (Str × Addr)) (fp : List Addr), PE (blkH X s H scope (compEnvC scope cl C X.env) fp) elt te) (hs : ∀ x, foldedSetIterable iter X.env x = pure x := by intro _; rfl) :
    PE X (.ListComp elt [⟨tg, iter, ifs, 0⟩] scope pos) (tLc wi g tt te (own.map (·.2))) := by
  refine ⟨fun pins s σ H Q I h => ?_⟩
  rw [eval_ListComp]
  have hfree : ∀ y ∈ scope.names, y.2 = .free → ∃ c, X.env.cells.lookup y.1 = some c := fun y hy e => (ok.free y hy e).elim (fun k => I.ok.has _ (.inl k)) fun k => I.ok.has _ (.inr k)
  refine wpAny_comprehension_free (use := none) rfl hs (closure_ok hfree) ok.kind (fun y hy e => by rw [ok.uniq y hy, e])
    (thn (hi.run pins s σ H _ I h) fun xv s1 hx => thn hx fun itv s2 h2 => ?_)
  obtain ⟨it, fp, tn, J, H2, rfl, I2, TT, st2, f2, q⟩ := h2
  refine wpAny_newObj_type (newEnv_comp ?_) (by show 0 ≤ sizeLine; decide)
  generalize hD : s2.heap.objs.size = D
  have hDn : H2 D = none := I2.hok.fresh (Nat.le_of_eq hD)
  obtain ⟨W, ⟨m0, w0⟩, turn⟩ := q D hDn
  generalize hs3 : ({ s2 with heap := s2.heap.push { cls := .type "list", data := .seq ([] : List Value).toArray } } : Shared) = s3
  have h3 : s3.heap = s2.heap.push { cls := .type "list", data := .seq ([] : List Value).toArray } := by rw [← hs3]
  have I3 : Inv X pins σ (upd H2 D (.lst [])) s3 := by
    subst hs3
    exact I2.laid (t' := s2.toks) (fun b o e => Heap.get?_push_of_some _ e) (Nat.le_of_eq hD) ⟨Nat.zero_le _, [], 0, .nil, by rw [← hD]; exact Heap.get?_push_size _ rfl⟩
  have f3 : ∀ b ∈ fp, FpOk X pins (upd H2 D (.lst [])) b ∧ b < s3.heap.objs.size := fun b hb => by
    obtain ⟨o, e, _⟩ := TT.obj _ _ st2 b hb
    have hlt := Heap.lt_size e
    exact ⟨⟨by rw [upd_ne (by rw [← hD]; exact Nat.ne_of_lt hlt)]; exact (f2 b hb).1, (f2 b hb).2⟩, by rw [h3, Heap.size_push]; exact Nat.lt_succ_of_lt hlt⟩
  have st3 : tn 0 s3.heap := TT.keep _ _ _ st2 fun b _ o e => by rw [h3]; exact Heap.get?_push_of_some _ e
  have I4 := block_startH I3 ok hN f3
  have bg := hg s3 (upd H2 D (.lst [])) s3.heap.objs.size (cellsFrom (s3.heap.objs.size + 1) scope.names (cloFrom X.env.cells scope.names [])) fp
  have bt := ht s3 (upd H2 D (.lst [])) s3.heap.objs.size (cellsFrom (s3.heap.objs.size + 1) scope.names (cloFrom X.env.cells scope.names [])) fp
  have be := he s3 (upd H2 D (.lst [])) s3.heap.objs.size (cellsFrom (s3.heap.objs.size + 1) scope.names (cloFrom X.env.cells scope.names [])) fp
  show codeAny _ _ (.compStart (.ListComp elt [⟨tg, iter, ifs, 0⟩] scope pos) 0 (.ref it) (.ref D) (compEnvC scope (cellsFrom (s3.heap.objs.size + 1) scope.names (cloFrom X.env.cells scope.names [])) s3.heap.objs.size X.env)) (compPost (model X.prog X.w) X.A X.xe none _ (.ref D) s3.heap.objs.size) { s3 with heap := pushCells (s3.heap.push { cls := .type "dict", data := .dict #[] }) scope.names }
  have nfp : ∀ b ∈ fp, (upd H2 D (.lst [])) b = none := fun b hb => (f3 b hb).1.1
  generalize hce : compEnvC scope (cellsFrom (s3.heap.objs.size + 1) scope.names (cloFrom X.env.cells scope.names [])) s3.heap.objs.size X.env = ce at I4 bg bt be ⊢
  have cL : ce.locals = s3.heap.objs.size := by subst hce; rfl
  generalize hH3 : upd H2 D (.lst []) = H3 at I3 I4 bg bt be w0 nfp f3
  generalize hs4 : ({ s3 with heap := pushCells (s3.heap.push { cls := .type "dict", data := .dict #[] }) scope.names } : Shared) = s4 at I4 ⊢
  have st4 : tn 0 s4.heap := TT.keep _ _ _ st3 fun b _ o e => by rw [← hs4]; exact pushCells_keeps _ _ _ _ (Heap.get?_push_of_some _ e)
  have hcB : HotC (blkH X s3 H3 scope ce fp) := hc
  have stat : ∀ {σ' : L2.St} {H' : Hp} {s' : Shared}, Inv (blkH X s3 H3 scope ce fp) [] σ' H' s' → (∀ b ∈ fp, H' b = none) → ∀ b ∈ fp, FpOk (blkH X s3 H3 scope ce fp) [] H' b := fun {σ' H' s'} I' hn b hb =>
    ⟨hn b hb, (I'.ok.exf b hb).1, I'.ok.exfs b hb, .inl hb, fun x c e => (I'.ok.exf b hb).2 x c e, fun p hp => (f3 b hb).1.2.2.2.2.2 p (List.mem_append_left _ (by
      have hp : p ∈ X.pn ++ [] := hp
      rw [List.append_nil] at hp
      exact hp))⟩
  refine codeAny_compStart_list ?_ (TT.self X.A 0 _ _ _ st4 ?_)
  all_goals
    refine compLoop_any (fun n s' => ∃ i H', Inv (blkH X s3 H3 scope ce fp) [] (wipe σ (own.map (·.2))) H' s' ∧ tn i s'.heap ∧ (∀ b ∈ fp, H' b = none) ∧ W i n H') ?_ m0 ⟨0, H3, I4, st4, nfp, w0⟩
    rintro n s5 ⟨i, H5, I5, st5, n5, w5⟩
    rcases turn i n H5 w5 with ⟨stop, qq⟩ | ⟨go, Nx, hNx, step⟩
    · have td := TT.done (blkH X s3 H3 scope ce fp) rfl rfl rfl hcB i [] s5 _ H5 (fun _ _ => False) I5 (stat I5 n5) st5 stop
      refine thnF td fun r s6 ⟨hr, I6⟩ => ?_
      subst hr
      have I7 : Inv X pins σ H5 s6 := I3.call' (ch := fp) I6.os I6.base I6.hok I6.bare fun b hb => ⟨(f3 b hb).1.2.2.2.1, (f3 b hb).1.2.1, (f3 b hb).1.2.2.2.2.1, (f3 b hb).1.2.2.2.2.2⟩
      have nC : H5 s3.heap.objs.size = none := by
        have z : H5 ce.locals = none := I6.free
        rw [cL] at z
        exact z
      obtain ⟨m, hn, _⟩ := I6.loc
      have hn : s6.heap.Ns ce.locals m := hn
      rw [cL] at hn
      obtain ⟨k0, k1, k2, k3, k4, k5⟩ := I3.fpOk (H' := H5) (Nat.le_refl _) nC
      exact ⟨m, hn, fun h'' sb => ⟨.ref D, H5, I7.turned (t' := s6.toks) (fun b o hb e => (sb.2 b hb).trans e) k0 k1 k3 k4 k5, rfl, qq⟩⟩
    · have ti := TT.item (blkH X s3 H3 scope ce fp) rfl rfl rfl hcB i [] s5 _ H5 (fun _ _ => False) I5 (stat I5 n5) st5 go
      refine thnF ti fun r s6 ⟨u, hr, h6⟩ => ?_
      subst hr
      refine thnF h6 fun _ s7 ⟨x, H7, I7, r7, y7, st7, n7⟩ => ?_
      have I7' := I7.pinned (stat I7 n7) (TT.obj _ _ st7)
      refine thnF (bg.run _ s7 _ H7 x u _ I7' r7 (step x H7 y7)) fun _ s8 ⟨σ8, H8, I8, hw8, q8⟩ => ?_
      refine thnF (bt.run _ s8 σ8 H8 _ I8 q8) fun b s9 ⟨H9, I9, q9⟩ => ?_
      have fin : ∀ {s' : Shared} {H' : Hp}, Inv (blkH X s3 H3 scope ce fp) ([] ++ pinsAt fp s7.heap) σ8 H' s' → Nx H' → ∃ m, m < n ∧ ∃ i H', Inv (blkH X s3 H3 scope ce fp) [] (wipe σ (own.map (·.2))) H' s' ∧ tn i s'.heap ∧ (∀ b ∈ fp, H' b = none) ∧ W i m H' := fun {s' H'} I' nx => by
        obtain ⟨m', hm, w'⟩ := hNx H' nx
        have pin' : ∀ b ∈ fp, ∀ o, s7.heap.get? b = some o → s'.heap.get? b = some o ∧ H' b = none := fun b hb o e =>
          let z := I'.pin (b, o) (List.mem_append_right _ (List.mem_append_right _ (mem_pinsAt hb e)))
          ⟨z.1, z.2.1⟩
        have hl : (wipe σ (own.map (·.2))).length = σ8.length := by rw [← hw8, wipe_length]
        refine ⟨m', hm, i + 1, H', (I'.unpinned (pins := [])).weak hl (fun j v e => ?_), TT.keep _ _ _ st7 fun b hb o e => (pin' b hb o e).1, fun b hb => ?_, w'⟩
        · rw [← hw8] at e
          exact (wipe_some e).1
        · obtain ⟨o, e, _⟩ := TT.obj _ _ st7 b hb
          exact (pin' b hb o e).2
      cases b with
      | false =>
        simp only [Bool.false_eq_true, if_false] at q9 ⊢
        exact fin I9 q9
      | true =>
        simp only [if_true] at q9 ⊢
        refine thnF (be.run _ s9 σ8 H9 _ I9 q9) fun z s10 ⟨yv, H10, I10, r10, acc, hD10, hz10, nx⟩ => ?_
        exact app_ok (X := blkH X s3 H3 scope ce fp) I10 hD10 hz10 r10 fun s11 I11 => fin I11 nx
/-! methods there -/
theorem _root_.L2.Fun.okH {P : Program} {w : World} {K : PySem.W.Frag} {mg : Str → Option Value} {base : Heap} {x qual : Str} {st : Stmt} {f : Addr} {fd : FuncData} {N ps : List Str} {k : Nat} {sp : Sp} (F : Fun K x qual st f fd) (S : FnScope N ps (defScope st)) (len : ∀ vs H Q E, sp vs H Q E → vs.length = ps.length)
    (hbody : ∀ (cdv : Value) (A : Around) (outer : List Env) (s : Shared) (H : Hp) (vs : List V) (Q : VK) (E : XK) (p : Addr × Obj), Hot1 A p → RoomH k (A.deeper (envOfC qual (defScope st) s.heap.objs.size f cdv)) → sp vs H Q E →
      ∃ t, PSs (cxH (L2.CX P w) P w K mg base N qual (defScope st) f cdv A outer s H E p) (defBody st) t ∧ t { nx := fun _ H' => Q .non H', rt := Q } (L2.start N vs) H) : FnH P w K mg base (L2.CX P w) (k + 1) f fd ps sp := by
  obtain ⟨oc, od, kV, doc, pm, an, cdv, ct, osl, rfl, lk, hcd⟩ := F.ex
  exact fn_ofH lk hcd S len (hbody cdv)
theorem hotC_def {CX : CXT} {P : Program} {w : World} {K : PySem.W.Frag} {mg : Str → Option Value} {base : Heap} {N : List Str} {qual : Str} {scope : Scope} {f : Addr} {cd : Value} {A : Around} {outer : List Env} {s : Shared} {H : Hp} {E : XK} {p : Addr × Obj} (h : Hot1 A p) : HotC (cxH CX P w K mg base N qual scope f cd A outer s H E p) := ⟨p, h, List.mem_cons_self⟩
abbrev FH (P : Program) (w : World) (K : PySem.W.Frag) (mg : Str → Option Value) (base : Heap) := FnH P w K mg base (L2.CX P w)
structure MOH (P : Program) (w : World) (K : PySem.W.Frag) (mg : Str → Option Value) (base : Heap) (CX : CXT) (n : Nat) (C : Addr) (m : Str) (sp : Sp) : Prop where
  ex : ∃ f fd ps, Cls K C ∧ Meth K C m f ∧ FnH P w K mg base CX n f fd ps sp ∧ Binds K fd ps []
def mtKH (P : Program) (w : World) (K : PySem.W.Frag) (mg : Str → Option Value) (base : Heap) (CX : CXT) (n : Nat) (m : Str) (E : XK) (σ : L2.St) (t : TA) (Q : VK) : V → Hp → Prop := fun x H1 => ∃ a C dx fs sp, x = .ref a ∧ H1 a = some (.ins C dx fs) ∧ fs.lookup m = none ∧
  MOH P w K mg base CX n C m sp ∧ t σ H1 fun vs H2 => sp (x :: vs) H2 Q E
def tMethDH (P : Program) (w : World) (K : PySem.W.Frag) (mg : Str → Option Value) (base : Heap) (CX : CXT) (n : Nat) (m : Str) (E : L2.St → XK) (ta : TE) (t : TA) : TE := fun σ H Q => ta σ H (mtKH P w K mg base CX n m (E σ) σ t Q)
section
variable {X : Cx} {CX : CXT} {k : Nat} {E : L2.St → XK} {m : Str} {pos apos : Pos} {e o : Expr} {es : List Expr} {ta : TE} {t : TA}
theorem pe_methDH {pl : Sem Bool} (he : PE X o ta) (hr : RoomH k X.A) (hc : HotC X) (hx : ∀ σ, PassesAt CX X σ (E σ)) (ha : PA X (e :: es) t)
    (hst : starEach (e :: es) X.env = (false, eval e X.env) :: starEach es X.env := by rfl) (hpl : (backTo pos (starEach es X.env)).any (·.1) = false := by rfl)
    (ht : eval (.Call (.Attribute o m apos) (e :: es) [] pos) X.env = (do
      let ov ← eval o X.env
      standAt apos.atName
      let (f, first) ← holding [ov] (getMethod ov m pl)
      callWith pos f first (backTo pos (starEach (e :: es) X.env)) (backToKw pos (keywordEach [] X.env))) := by rfl) :
    PE X (.Call (.Attribute o m apos) (e :: es) [] pos) (tMethDH X.prog X.w X.K X.mg X.base CX k m E ta t) := by
  refine ⟨fun pins s σ H Q I h => ?_⟩
  refine PySem.W.methodCall_KW (pl := pl) (thn (he.run pins s σ H _ I h) fun u s1 ⟨x, H1, I1, rx, a, C, dx, fs, sp, ex, ea, l, mo, q⟩ => ?_) ht
  subst ex
  obtain rfl : u = Value.ref a := rx
  obtain ⟨f, fd, ps, c, hm, F, hb⟩ := mo.ex
  refine getmeth_ok I1 ea c hm l ?_
  refine PySem.W.callWith_K (first := [.ref a]) (h₀ := X.base) I.ok.mod.kin hm.kp (thn (ha.run pos pins s1 σ H1 _ I1 q) fun us s2 ⟨vs, H2, I2, r, q2⟩ => ⟨I2.kIn, ?_⟩) hst hpl
  exact run_fnH (us := .ref a :: us) (vs := .ref a :: vs) F hr hc hb (hx σ) I2 (.cons rfl r) q2
theorem pe_methDH0 {pl : Sem Bool} (he : PE X o ta) (hr : RoomH k X.A) (hc : HotC X) (hx : ∀ σ, PassesAt CX X σ (E σ))
    (ht : eval (.Call (.Attribute o m apos) [] [] pos) X.env = (do
      let ov ← eval o X.env
      standAt apos.atName
      let (f, first) ← holding [ov] (getMethod ov m pl)
      callWith pos f first (backTo pos (starEach [] X.env)) (backToKw pos (keywordEach [] X.env))) := by rfl) :
    PE X (.Call (.Attribute o m apos) [] [] pos) (tMethDH X.prog X.w X.K X.mg X.base CX k m E ta tNil) := by
  refine ⟨fun pins s σ H Q I h => ?_⟩
  refine PySem.W.methodCall_KW (pl := pl) (thn (he.run pins s σ H _ I h) fun u s1 ⟨x, H1, I1, rx, a, C, dx, fs, sp, ex, ea, l, mo, q⟩ => ?_) ht
  subst ex
  obtain rfl : u = Value.ref a := rx
  obtain ⟨f, fd, ps, c, hm, F, hb⟩ := mo.ex
  refine getmeth_ok I1 ea c hm l ?_
  exact PySem.W.callWith_K0 (first := [.ref a]) I1.kIn hm.kp (run_fnH (us := [.ref a]) (vs := [.ref a]) F hr hc hb (hx σ) I1 (.cons rfl .nil) q)
theorem x_mtKH {P : Program} {w : World} {K : PySem.W.Frag} {mg : Str → Option Value} {base : Heap} {CX : CXT} {n : Nat} {m : Str} {E : XK} {σ : L2.St} {t : TA} {Q : VK} {a C dx : Addr} {fs : List (Str × V)} {H : Hp} {sp : Sp} (h : H a = some (.ins C dx fs)) (mo : MOH P w K mg base CX n C m sp) (l : fs.lookup m = none) (q : t σ H fun vs H2 => sp (.ref a :: vs) H2 Q E) : mtKH P w K mg base CX n m E σ t Q (.ref a) H := ⟨a, C, dx, fs, sp, rfl, h, l, mo, q⟩
end
end
/-! ### a suite that raises: exceptions whose context is known (my own rules) -/
section
open L2 L2H
/-- behind a call that let an exception out: one whose context is None, or one that the clause of c doesn't take -/
def CXM (c : Value) (K : PySem.W.Frag) (P : Program) (w : World) : CXT := fun outer H s E u s' =>
  L2N.CX P w outer H s E u s' ∨ L2.CX P w outer H s (fun cls d H' => PySem.W.exmOne K cls c = some false ∧ E cls d H') u s'
abbrev FOM (P : Program) (w : World) (K : PySem.W.Frag) (mg : Str → Option Value) (base : Heap) (c : Value) := FnOk P w K mg base (CXM c K P w)
theorem _root_.L2.Fun.okM {P : Program} {w : World} {K : PySem.W.Frag} {mg : Str → Option Value} {base : Heap} {c : Value} {x qual : Str} {st : Stmt} {f : Addr} {fd : FuncData} {N ps : List Str} {k : Nat} {sp : Sp} (F : Fun K x qual st f fd) (S : FnScope N ps (defScope st)) (len : ∀ vs H Q E, sp vs H Q E → vs.length = ps.length)
    (hbody : ∀ (cdv : Value) (A : Around) (outer : List Env) (s : Shared) (H : Hp) (vs : List V) (Q : VK) (E : XK), Room k (A.deeper (envOfC qual (defScope st) s.heap.objs.size f cdv)) → sp vs H Q E →
      ∃ t, PSs (cxOf (CXM c K P w) P w K mg base N qual (defScope st) f cdv A outer s H E) (defBody st) t ∧ t { nx := fun _ H' => Q .non H', rt := Q } (L2.start N vs) H) : FnOk P w K mg base (CXM c K P w) (k + 1) f fd ps sp := by
  obtain ⟨oc, od, kV, doc, pm, an, cdv, ct, osl, rfl, lk, hcd⟩ := F.ex
  exact fn_of lk hcd S len (hbody cdv)
variable {X : Cx} {c : Value} {E : XK}
theorem takesN (hs : X.stack = X.env :: X.outer) (hf : X.env.frame = some X.env.locals) (hex : X.ex = []) {E₁ : Value → Shared → Prop}
    (hx : X.xe = fun e s' => wpAny (model X.prog X.w) X.A (leaving X.env e) (fun _ s'' => CXM c X.K X.prog X.w X.outer X.H_0 X.s_0 E e s'') E₁ s') : L2N.Takes X (fun cls d _ H => E cls d H) := fun u s' x => by
  rw [hx]
  exact wpAny_mono (L2N.XE.leave (W := fun cls d _ H => E cls d H) (E := E) hs hf hex (fun _ _ _ _ h => h) x) (fun _ _ z => .inl z) fun _ _ z => z
theorem takesP (hs : X.stack = X.env :: X.outer) (hf : X.env.frame = some X.env.locals) (hex : X.ex = []) {E₁ : Value → Shared → Prop}
    (hx : X.xe = fun e s' => wpAny (model X.prog X.w) X.A (leaving X.env e) (fun _ s'' => CXM c X.K X.prog X.w X.outer X.H_0 X.s_0 E e s'') E₁ s') : L2.Takes X (fun cls d _ H => PySem.W.exmOne X.K cls c = some false ∧ E cls d H) := fun u s' x => by
  rw [hx]
  exact wpAny_mono (L2.XE.leave (W := fun cls d _ H => PySem.W.exmOne X.K cls c = some false ∧ E cls d H) (E := fun cls d H => PySem.W.exmOne X.K cls c = some false ∧ E cls d H) hs hf hex (fun _ _ _ _ h => h) x) (fun _ _ z => .inr z) fun _ _ z => z
theorem passM (hs : X.stack = X.env :: X.outer) (hf : X.env.frame = some X.env.locals) (hex : X.ex = []) {E₁ : Value → Shared → Prop}
    (hx : X.xe = fun e s' => wpAny (model X.prog X.w) X.A (leaving X.env e) (fun _ s'' => CXM c X.K X.prog X.w X.outer X.H_0 X.s_0 E e s'') E₁ s') (σ : L2.St) : PassesAt (CXM c X.K X.prog X.w) X σ (WE (fun cls d _ H => E cls d H) σ) := fun pins H s e s' I z => by
  rcases z with z | z
  · exact L2N.passAt (takesN hs hf hex hx) σ pins H s e s' I z
  · exact L2.passAt (takesP hs hf hex hx) σ pins H s e s' I z
/-- in the body of a try whose suite may raise -/
def wBoth (K : PySem.W.Frag) (c : Value) (W Wout : WX) : WX := fun cls d σ H => W cls d σ H ∧ (PySem.W.exmOne K cls c = some false → Wout cls d σ H)
theorem passMX {W Wout : WX} (hN : L2N.Takes X W) (hL : L2.Takes X (wPass X.K c Wout)) (σ : L2.St) : PassesAt (CXM c X.K X.prog X.w) X σ (WE (wBoth X.K c W Wout) σ) := fun pins H s e s' I z => by
  rcases z with z | z
  · exact L2N.passAt (hN.imp fun _ _ _ _ h => h.1) σ pins H s e s' I z
  · exact L2.passAt hL σ pins H s e s' I (by
      obtain ⟨a, B, H', cls, d, g1, g2, g3, g4, g5, g6, g7, g8, g9⟩ := z
      exact ⟨a, B, H', cls, d, g1, g2, g3, g4, g5, g6, g7, g8, g9.2 g8⟩)
theorem passMXK {K : PySem.W.Frag} {P : Program} {w : World} {W Wout : WX} (hN : L2N.Takes X W) (hL : L2.Takes X (wPass K c Wout)) (hK : X.K = K := by rfl) (hP : X.prog = P := by rfl) (hw : X.w = w := by rfl) (σ : L2.St) : PassesAt (CXM c K P w) X σ (WE (wBoth K c W Wout) σ) := by
  subst hK hP hw
  exact passMX hN hL σ
section
variable {ta : TE}
theorem K_methDM {P : Program} {w : World} {K : PySem.W.Frag} {mg : Str → Option Value} {base : Heap} {k : Nat} {E : L2.St → XK} {m : Str} {pos apos : Pos} {e o : Expr} {es : List Expr} {t : TA} {pl : Sem Bool} (he : PE X o ta) (hr : Room k X.A) (hx : ∀ σ, PassesAt (CXM c K P w) X σ (E σ)) (ha : PA X (e :: es) t)
    (hst : starEach (e :: es) X.env = (false, eval e X.env) :: starEach es X.env := by rfl) (hpl : (backTo pos (starEach es X.env)).any (·.1) = false := by rfl)
    (ht : eval (.Call (.Attribute o m apos) (e :: es) [] pos) X.env = (do
      let ov ← eval o X.env
      standAt apos.atName
      let (f, first) ← holding [ov] (getMethod ov m pl)
      callWith pos f first (backTo pos (starEach (e :: es) X.env)) (backToKw pos (keywordEach [] X.env))) := by rfl)
    (h1 : X.prog = P := by rfl) (h2 : X.w = w := by rfl) (h3 : X.K = K := by rfl) (h4 : X.mg = mg := by rfl) (h5 : X.base = base := by rfl) :
    PE X (.Call (.Attribute o m apos) (e :: es) [] pos) (tMethD P w K mg base (CXM c K P w) k m E ta t) := by
  subst h1 h2 h3 h4 h5
  exact pe_methD he hr hx ha hst hpl ht
theorem K_methDH {P : Program} {w : World} {K : PySem.W.Frag} {mg : Str → Option Value} {base : Heap} {k : Nat} {E : L2.St → XK} {m : Str} {pos apos : Pos} {e o : Expr} {es : List Expr} {t : TA} {pl : Sem Bool} (he : PE X o ta) (hr : RoomH k X.A) (hc : HotC X) (hx : ∀ σ, PassesAt (L2.CX P w) X σ (E σ)) (ha : PA X (e :: es) t)
    (hst : starEach (e :: es) X.env = (false, eval e X.env) :: starEach es X.env := by rfl) (hpl : (backTo pos (starEach es X.env)).any (·.1) = false := by rfl)
    (ht : eval (.Call (.Attribute o m apos) (e :: es) [] pos) X.env = (do
      let ov ← eval o X.env
      standAt apos.atName
      let (f, first) ← holding [ov] (getMethod ov m pl)
      callWith pos f first (backTo pos (starEach (e :: es) X.env)) (backToKw pos (keywordEach [] X.env))) := by rfl)
    (h1 : X.prog = P := by rfl) (h2 : X.w = w := by rfl) (h3 : X.K = K := by rfl) (h4 : X.mg = mg := by rfl) (h5 : X.base = base := by rfl) :
    PE X (.Call (.Attribute o m apos) (e :: es) [] pos) (tMethDH P w K mg base (L2.CX P w) k m E ta t) := by
  subst h1 h2 h3 h4 h5
  exact pe_methDH he hr hc hx ha hst hpl ht
theorem K_methDH0 {P : Program} {w : World} {K : PySem.W.Frag} {mg : Str → Option Value} {base : Heap} {k : Nat} {E : L2.St → XK} {m : Str} {pos apos : Pos} {o : Expr} {pl : Sem Bool} (he : PE X o ta) (hr : RoomH k X.A) (hc : HotC X) (hx : ∀ σ, PassesAt (L2.CX P w) X σ (E σ))
    (ht : eval (.Call (.Attribute o m apos) [] [] pos) X.env = (do
      let ov ← eval o X.env
      standAt apos.atName
      let (f, first) ← holding [ov] (getMethod ov m pl)
      callWith pos f first (backTo pos (starEach [] X.env)) (backToKw pos (keywordEach [] X.env))) := by rfl)
    (h1 : X.prog = P := by rfl) (h2 : X.w = w := by rfl) (h3 : X.K = K := by rfl) (h4 : X.mg = mg := by rfl) (h5 : X.base = base := by rfl) :
    PE X (.Call (.Attribute o m apos) [] [] pos) (tMethDH P w K mg base (L2.CX P w) k m E ta tNil) := by
  subst h1 h2 h3 h4 h5
  exact pe_methDH0 he hr hc hx ht
end
theorem x_methDH {P : Program} {w : World} {K : PySem.W.Frag} {mg : Str → Option Value} {base : Heap} {CX : CXT} {n : Nat} {m : Str} {E : L2.St → XK} {te : TE} {t : TA} {σ : L2.St} {H : Hp} {Q : VK} (h : te σ H (mtKH P w K mg base CX n m (E σ) σ t Q)) : tMethDH P w K mg base CX n m E te t σ H Q := h
theorem x_both {K : PySem.W.Frag} {ts : Addr → Value → Option Addr → TS} {Wout : WX} {D : Ends} {cls : Value} {d : Option Addr} {σ : L2.St} {H : Hp} (h : wOnly K c ts Wout D cls d σ H) : wBoth K c (wOnly K c ts Wout D) Wout cls d σ H := ⟨h, fun z => by
  obtain ⟨b, hb, _, hn⟩ := h
  rw [z] at hb
  cases hb
  exact hn rfl⟩
theorem ps_raiseN {W : WX} {e : Expr} {t : L2.St → Hp → XK → Prop} {pos : Pos} (hc : X.calm = true) (tk : L2N.Takes X W) (he : L2N.PMk X e t) : PS X (.Raise (some e) none pos) (tRaise t W) := L2N.ps_raise hc tk he
theorem ps_raiseHK {W : WX} {e : Expr} {t : L2.St → Hp → XK → Prop} {pos : Pos} (hc : HotC X) (tk : L2.Takes X W) (he : L2N.PMk X e t) : PS X (.Raise (some e) none pos) (tRaise t W) := L2H.ps_raiseH hc tk he
theorem pmk_ownN {C : Addr} {x m : Str} {j : Nat} {p p2 pos : Pos} (T : XC X.K C) (gC : X.mg x = some (.ref C)) (hg : Gl X x) (hdb : (x == ("__debug__" : Str)) = false := by decide) : L2N.PMk X (.Call (.Name x p) [.Constant (.str m) j p2] [] pos) (tMkE C) :=
  L2N.pmk_own PySem.F.excBase_ValueError T.q gC T.k (raises_own T.r T.t) hg hdb
theorem pmk_oexN {CX : CXT} {x : Str} {e : Expr} {es : List Expr} {ta : TA} {p pos : Pos} {C fI : Addr} {k : Nat} {fd : FuncData} {ps : List Str} {sp : Sp} {ds : List Value} {dvs : List V} (T : OexC X.K C) (iC : PySem.W.findIn X.K (.ref C) "__init__" = some (some (.ref fI))) (tI : PySem.W.typeIn X.K (.ref fI) = some (.type "function"))
    (F1 : FnOk X.prog X.w X.K X.mg X.base CX k fI fd ps sp) (hr : Room (k + 1) X.A) (hb : Binds X.K fd ps ds) (hd : Vals dvs ds) (hx : Passes CX X (fun _ _ _ => False)) (hg : Gl X x) (hm : X.mg x = some (.ref C)) (ha : PA X (e :: es) ta)
    (hdb : (x == ("__debug__" : Str)) = false := by decide) (he : starEach (e :: es) X.env = (false, eval e X.env) :: starEach es X.env := by rfl) (hpl : (backTo pos (starEach es X.env)).any (·.1) = false := by rfl) :
    L2N.PMk X (.Call (.Name x p) (e :: es) [] pos) (tMkO C sp dvs ta) := by
  intro pins s σ H Q I h
  obtain ⟨nm, q, N, bs, bm, sn, sub, ab, col, dd, k0, k1, k2, k3, k5, hC, hbm⟩ := T.cls
  refine wpAny_Call_Name_kw (ld_glob I hg hm ?_ hdb)
  refine PySem.W.callWith_K (h₀ := X.base) I.ok.mod.kin T.kC (thn (ha.run pos pins s σ H _ I h) fun us s1 ⟨vs, H1, I1, r1, hz, q1⟩ => ⟨I1.kIn, ?_⟩) he hpl
  show wpAny _ _ (call (.ref C) us) _ _ _
  obtain ⟨hp, g, dr, tk, os⟩ := s1
  have hsz : hp.objs.size ≤ hp.objs.size + 1 := Nat.le_succ _
  have hn : H1 (hp.objs.size + 1) = none := I1.hok.fresh hsz
  have hq := q1 (hp.objs.size + 1) hn
  have kk : ∀ b o, hp.get? b = some o → ((hp.push (PySem.W.kdv_tup us)).push (PySem.HandSPX.excO C hp.objs.size)).get? b = some o := fun b o e => Heap.get?_push_of_some _ (Heap.get?_push_of_some _ e)
  have hget : ((hp.push (PySem.W.kdv_tup us)).push (PySem.HandSPX.excO C hp.objs.size)).get? (hp.objs.size + 1) = some (PySem.HandSPX.excO C hp.objs.size) := by heap_get
  have I2 : Inv X pins σ (upd H1 (hp.objs.size + 1) (exo (hp.objs.size + 1) C none)) ⟨(hp.push (PySem.W.kdv_tup us)).push (PySem.HandSPX.excO C hp.objs.size), g, dr, tk, os⟩ :=
    I1.laid (t' := tk) (a := hp.objs.size + 1) (o := exo (hp.objs.size + 1) C none) (h' := (hp.push (PySem.W.kdv_tup us)).push (PySem.HandSPX.excO C hp.objs.size)) kk hsz (exo_ok hget)
  have r2 : Vals (V.ref (hp.objs.size + 1) :: (vs ++ dvs)) (Value.ref (hp.objs.size + 1) :: (us ++ ds)) := .cons rfl (r1.append hd)
  have hl : (Value.ref (hp.objs.size + 1) :: us ++ ds).length = ps.length := by
    have e := r2.length
    rw [F1.len _ _ _ _ hq] at e
    exact e.symm
  have hus : us.length ≤ sizeLine := by
    rw [← Paired.length r1, sizeLine_eq]
    omega
  refine wpAny_call (PySem.HandSPX.call_own F.excBase_ValueError (fun Y => PySem.HandSPX.refsVE_contains Y bm hbm) (I1.kIn _ _ hC) (PySem.W.looks_findIn I1.kIn iC) (fun self => PySem.W.bind_fn I1.kIn self tI) hus
    (codeAny_mono (F1.run _ X.stack _ _ ⟨Value.ref (hp.objs.size + 1) :: us, []⟩ (Value.ref (hp.objs.size + 1) :: (us ++ ds)) _ _ (fun _ _ _ => False) (hr.make C us []) (I2.env0.make C us []) (hb _ (Value.ref (hp.objs.size + 1) :: us) I2.kIn hl) r2 hq) fun r s' hq' => ?_))
  cases r with
  | error er => exact hx pins σ _ _ er s' I2 hq'
  | ok fl =>
    cases fl with
    | ret u =>
      obtain ⟨v, H2, os2, bare2, un2, hok2, rv, ev, d, fs, ea, ed, hd1, q2⟩ := hq'
      subst ev
      obtain ⟨h2, g2, d2, t2, os'⟩ := s'
      obtain ⟨t0, G, J, kG, ge, hoe, na⟩ := mk_end0 (d2 := d2) (t2 := t2) I1 hsz kk un2 hok2 os2 bare2 ea ed hd1
      refine ⟨rv, hp.objs.size + 1, _, _, ⟨G, g2, d2, t2, os'⟩, _, .ref C, some d, rfl, J, kG, ge, hoe, ⟨rfl, rfl, fun vs hv => ?_⟩, rfl, rfl, na, rfl, bare2, raises_own T.exC T.tyC, q2⟩
      cases hv
      rfl
    | next => exact False.elim hq'
    | brk => exact False.elim hq'
    | cont => exact False.elim hq'
theorem ps_tryX {x : Str} {body suite : List Stmt} {b₀ : Stmt} {np pos pos' : Pos} {tb : WX → TS} {ts : Addr → Value → Option Addr → TS} {Wout : WX} (hs : X.stack = X.env :: X.outer) (hf : X.env.frame = some X.env.locals) (hc : Names X x c)
    (hpa : ∀ hd : Option Value, PassesOwnAt (model X.prog X.w) (X.A.mark hd) X.A X.env X.xe) (tk : L2.Takes X Wout)
    (hb : ∀ (W : WX) (pn : List (Addr × Obj)) (xe : Value → Shared → Prop), L2N.Takes (X.tr pn xe) W → L2.Takes (X.tr pn xe) (wPass X.K c Wout) → PassesOwn (model X.prog X.w) X.A X.env xe → PSs (X.tr pn xe) body (tb W))
    (hsu : ∀ (a : Addr) (oe : Obj) (cls : Value) (d : Option Addr) (pn : List (Addr × Obj)), L2N.Zn cls d oe → (∃ vs, oe.data = .fields vs) → L2.Takes (suiteX X a ((a, oe) :: pn)) Wout → HotC (suiteX X a ((a, oe) :: pn)) →
      PSs (suiteX X a ((a, oe) :: pn)) (b₀ :: suite) (ts a cls d)) :
    PS X (.Try body [.ExceptHandler (some (.Name x np)) none (b₀ :: suite) pos'] [] [] pos) (tTry1 X.K c tb ts Wout) := L2H.ps_try_onlyX hs hf hc hpa tk hb hsu
def tTryE (K : PySem.W.Frag) (c : Value) (tb : WX → TS) (ts : Addr → Value → Option Addr → TS) (u : TS) (Wout : WX) : TS := fun D σ H => tb (wOnly K c ts Wout D) { D with nx := u D } σ H
section
variable {D : Ends} {σ : L2.St} {H : Hp} {K : PySem.W.Frag} {tb : WX → TS} {ts : Addr → Value → Option Addr → TS} {u v : TS} {Wout : WX}
theorem x_tryE (h : tb (wOnly K c ts Wout D) { D with nx := u D } σ H) : tTryE K c tb ts u Wout D σ H := h
theorem x_seqTE (h : tTryE K c tb ts u Wout { D with nx := v D } σ H) : tSeq (tTryE K c tb ts u Wout) v D σ H := h
end
section
variable {pins : List (Addr × Obj)} {σ : L2.St} {H : Hp} {s : Shared}
variable {X : Cx} {x : Str} {c : Value} {body suite : List Stmt} {b₀ : Stmt} {np pos pos' : Pos} {tb : WX → TS} {ts : Addr → Value → Option Addr → TS} {Wout : WX}
theorem ps_tryXE {orelse : List Stmt} {u : TS} (ho : PSs X orelse u) (hs : X.stack = X.env :: X.outer) (hf : X.env.frame = some X.env.locals) (hc : Names X x c) (hpa : ∀ hd : Option Value, PassesOwnAt (model X.prog X.w) (X.A.mark hd) X.A X.env X.xe) (tk : L2.Takes X Wout)
    (hb : ∀ (W : WX) (pn : List (Addr × Obj)) (xe : Value → Shared → Prop), L2N.Takes (X.tr pn xe) W → L2.Takes (X.tr pn xe) (wPass X.K c Wout) → PassesOwn (model X.prog X.w) X.A X.env xe → PSs (X.tr pn xe) body (tb W))
    (hsu : ∀ (a : Addr) (oe : Obj) (cls : Value) (d : Option Addr) (pn : List (Addr × Obj)), L2N.Zn cls d oe → (∃ vs, oe.data = .fields vs) → L2.Takes (suiteX X a ((a, oe) :: pn)) Wout → HotC (suiteX X a ((a, oe) :: pn)) →
      PSs (suiteX X a ((a, oe) :: pn)) (b₀ :: suite) (ts a cls d)) :
    PS X (.Try body [.ExceptHandler (some (.Name x np)) none (b₀ :: suite) pos'] orelse [] pos) (tTryE X.K c tb ts u Wout) := by
  refine ⟨fun pins s σ H D I h => ?_⟩
  have ok := I.ok
  have hfr : X.A.frames = some (X.env :: X.outer) := by rw [ok.frames, hs]
  have notFr : ∀ {B h : Heap} {a : Addr} {o : Obj} {vs : Array Value}, h.FunFrames B (X.env :: X.outer) → h.get? a = some o → o.data = .fields vs → a ∉ frs (X.env :: X.outer) := fun {B h a o vs} ff e dd hm => by
    obtain ⟨_, o', e', hnf⟩ := ff.mem hm
    rw [e] at e'; cases e'
    exact hnf _ dd
  have flyOn : ∀ {a : Addr} {B : Heap} {sI s' : Shared} {σ' : L2.St} {H' : Hp} {cls : Value} {d : Option Addr} {h3 : Heap}, Inv X pins σ' H' sI → (∀ b o, sI.heap.get? b = some o → b ∉ frs X.stack → B.get? b = some o) → sI.heap.UpToSlots h3 →
      HandSPX.FlyingZ B (X.env :: X.outer) a (Zc cls d) h3 → H' a = none → s'.os = sI.os → AllBare s'.gens → Wout cls d σ' H' → wpAny (model X.prog X.w) X.A (handleBy (.ref a) X.env []) (SP X pins D) X.xe { s' with heap := h3 } := by
    intro a B sI s' σ' H' cls d h3 J nb up fl3 na os ag w
    refine wpAny_handleBy_nil ?_
    obtain ⟨k1, k2, k3, oe, vs, T, oT, ts', he, hz, hd, h1, hr⟩ := id fl3
    unfold PySem.passOn
    refine wpAny_bind (wpAny_field he hd h1 ?_)
    rw [if_neg (show ¬ ((Value.ref T == Value.none) = true) from by simp)]
    have fin : wpAny (model X.prog X.w) X.A (setFlight (.ref a) X.env.frame) (fun _ s4 => wpAny (model X.prog X.w) X.A (throw (.ref a) : Sem Flow) (SP X pins D) X.xe s4) X.xe { s' with heap := h3 } := by
      rw [hf]
      refine HandSPX.setFlight_upZ fl3 fun h4 hh4 up4 => wpAny_throw (tk _ _ ?_)
      exact ⟨a, B, sI, pins, σ', H', cls, d, rfl, J, nb, up.trans up4, .inr (.inr (by rw [hs]; exact hh4)), na, os, ag, w⟩
    first
      | exact wpAny_bind (wpAny_pure (wpAny_bind fin))
      | exact wpAny_bind fin
  refine wpAny_Try_except ?_
  refine wpAny_mono ((hb (wOnly X.K c ts Wout D) (X.pn ++ pins) (fun e s₁ => wpAny (model X.prog X.w) X.A (noteFrame e X.env) (fun _ s₂ => wpAny (model X.prog X.w) X.A (setFlight e none) (fun _ s₃ =>
    wpAny (model X.prog X.w) X.A (handleBy e X.env [.ExceptHandler (some (.Name x np)) none (b₀ :: suite) pos']) (SP X pins D) X.xe s₃) X.xe s₂) X.xe s₁) (fun u s' xx => ?_) (fun u s' xx => ?_) PassesOwn.looking).run [] s σ H { D with nx := u D } (I.toTry _) h) (fun f s1 hsp => ?_) (fun e s1 he => he)
  · -- an exception whose context is None
    obtain ⟨a, B, sI, pins', σ', H', cls, d, rfl, J', nb, up, sky, na, os, ag, b, hb1, hyes, hno⟩ := xx
    have J : Inv X pins σ' H' sI := J'.ofTry ok
    have sky' : Sky B (X.env :: X.outer) a (L2N.Zn cls d) X.env.locals s'.heap := by rw [← hs]; exact sky
    show wpAny (model X.prog X.w) X.A (noteFrame (.ref a) X.env) _ _ _
    refine L2N.Sky.land L2N.Zn.steady hfr hf sky' fun h3 fl3 up3 => ?_
    have J3 : Inv X pins σ' H' { s' with heap := h3 } := J.landed nb fl3.1 (up.trans up3) os ag
    obtain ⟨oe3, vs3, he3, hz3, hd3⟩ := fl3.there
    have nfr : a ∉ frs (X.env :: X.outer) := notFr fl3.2.2.1 he3 hd3
    have nL : a ≠ X.env.locals := fun z => nfr (List.mem_filterMap.mpr ⟨X.env, List.mem_cons_self, by rw [hf, z]⟩)
    have nF : a ∉ X.fs := fun hm => by
      obtain ⟨e, he, q⟩ := List.mem_filterMap.mp hm
      exact nfr (List.mem_filterMap.mpr ⟨e, List.mem_cons_of_mem _ he, q⟩)
    have S3 := J3.suite he3 hd3 na nL nF
    refine wpAny_handleBy_cons (codeAny_handlers_test ?_) (by intro q; cases q)
    have LT : PySem.W.Looks (model X.prog X.w) h3 (typeOf (.ref a)) cls := fun A Q E s k q => wpAny_typeOf_ref (k _ _ he3) (by rw [hz3.1]; exact q)
    have LM := PySem.W.exm_one (M := model X.prog X.w) (J3.kIn) LT hb1
    have test : ∀ {Q : Value → Shared → Prop} {E : Value → Shared → Prop}, Q c { s' with heap := h3 } → wpAny (model X.prog X.w) (X.A.mark (some (.ref a))) (eval (.Name x np) X.env) Q E { s' with heap := h3 } := fun {Q E} q => by
      obtain ⟨hg, hdbg, hm | ⟨hm, hv, hnn⟩⟩ := hc
      · exact ld_glob (X := X.suite a ((a, oe3) :: (X.pn ++ pins))) S3 hg hm q hdbg
      · exact ld_blt (X := X.suite a ((a, oe3) :: (X.pn ++ pins))) S3 hg hm hv q hnn hdbg
    refine test (LM.here ?_)
    cases b with
    | true =>
      refine codeAny_handlers_suite ?_
      refine HandSPX.lands_againZ fl3 fun h4 fl4 up4 => ?_
      have J4 : Inv X pins σ' H' { s' with heap := h4 } := J.landed nb fl4.1 ((up.trans up3).trans up4) os ag
      obtain ⟨oe4, vs4, he4, hz4, hd4⟩ := fl4.there
      have S4 := J4.suite he4 hd4 na nL nF
      have tkS : L2.Takes (suiteX X a ((a, oe4) :: (X.pn ++ pins))) Wout := fun u2 s2 x2 => by
        obtain ⟨a2, B2, sI2, pn2, σ2, H2, cls2, d2, e2, I2, nb2, up2, sky2, na2, os2, ag2, w2⟩ := x2
        exact tk u2 s2 ⟨a2, B2, sI2, pins, σ2, H2, cls2, d2, e2, unsuiteX I2 ok, nb2, up2, sky2, na2, os2, ag2, w2⟩
      have hot : HotC (suiteX X a ((a, oe4) :: (X.pn ++ pins))) := ⟨(a, oe4), ⟨rfl, vs4, hd4, hz4.2.2 vs4 hd4⟩, List.mem_cons_self⟩
      refine wpAny_mono ((hsu a oe4 cls d (X.pn ++ pins) hz4 ⟨_, hd4⟩ tkS hot).run [] _ _ H' _ (suiteX_of S4) (hyes rfl a na)) (fun f s6 hsp => ?_) (fun e6 s6 z => hpa (some (.ref a)) e6 s6 z)
      cases f with
      | next =>
        obtain ⟨σ6, H6, S6, q6⟩ := hsp
        exact ⟨_, _, unsuiteX S6 ok, q6⟩
      | brk =>
        obtain ⟨σ6, H6, S6, q6⟩ := hsp
        exact ⟨_, _, unsuiteX S6 ok, q6⟩
      | cont =>
        obtain ⟨σ6, H6, S6, q6⟩ := hsp
        exact ⟨_, _, unsuiteX S6 ok, q6⟩
      | ret u =>
        obtain ⟨v6, σ6, H6, S6, r6, q6⟩ := hsp
        exact ⟨_, _, _, unsuiteX S6 ok, r6, q6⟩
    | false =>
      show wpAny _ X.A (handleBy (.ref a) X.env []) _ _ _
      exact flyOn J nb (up.trans up3) (flyingZ_imp (fun o z => z.zc) fl3) na os ag (hno rfl)
  · -- any other: the clause doesn't name it
    obtain ⟨a, B, sI, pins', σ', H', cls, d, rfl, J', nb, up, sky, na, os, ag, hb1, hno⟩ := xx
    have J : Inv X pins σ' H' sI := J'.ofTry ok
    have sky' : Sky B (X.env :: X.outer) a (Zc cls d) X.env.locals s'.heap := by rw [← hs]; exact sky
    show wpAny (model X.prog X.w) X.A (noteFrame (.ref a) X.env) _ _ _
    refine L2.Sky.land Zc.steady hfr hf sky' fun h3 fl3 up3 => ?_
    have J3 : Inv X pins σ' H' { s' with heap := h3 } := J.landed nb fl3.1 (up.trans up3) os ag
    obtain ⟨oe3, vs3, he3, hz3, hd3⟩ := fl3.there
    have nfr : a ∉ frs (X.env :: X.outer) := notFr fl3.2.2.1 he3 hd3
    have nL : a ≠ X.env.locals := fun z => nfr (List.mem_filterMap.mpr ⟨X.env, List.mem_cons_self, by rw [hf, z]⟩)
    have nF : a ∉ X.fs := fun hm => by
      obtain ⟨e, he, q⟩ := List.mem_filterMap.mp hm
      exact nfr (List.mem_filterMap.mpr ⟨e, List.mem_cons_of_mem _ he, q⟩)
    have S3 := J3.suite he3 hd3 na nL nF
    refine wpAny_handleBy_cons (codeAny_handlers_test ?_) (by intro q; cases q)
    have LT : PySem.W.Looks (model X.prog X.w) h3 (typeOf (.ref a)) cls := fun A Q E s k q => wpAny_typeOf_ref (k _ _ he3) (by rw [hz3.1]; exact q)
    have LM := PySem.W.exm_one (M := model X.prog X.w) (J3.kIn) LT hb1
    have test : ∀ {Q : Value → Shared → Prop} {E : Value → Shared → Prop}, Q c { s' with heap := h3 } → wpAny (model X.prog X.w) (X.A.mark (some (.ref a))) (eval (.Name x np) X.env) Q E { s' with heap := h3 } := fun {Q E} q => by
      obtain ⟨hg, hdbg, hm | ⟨hm, hv, hnn⟩⟩ := hc
      · exact ld_glob (X := X.suite a ((a, oe3) :: (X.pn ++ pins))) S3 hg hm q hdbg
      · exact ld_blt (X := X.suite a ((a, oe3) :: (X.pn ++ pins))) S3 hg hm hv q hnn hdbg
    refine test (LM.here ?_)
    show wpAny _ X.A (handleBy (.ref a) X.env []) _ _ _
    exact flyOn J nb (up.trans up3) fl3 na os ag hno
  · cases f with
    | next =>
      obtain ⟨σ', H', J', q⟩ := hsp
      exact ho.run pins s1 σ' H' D (J'.ofTry ok) q
    | brk =>
      obtain ⟨σ', H', J', q⟩ := hsp
      exact ⟨σ', H', J'.ofTry ok, q⟩
    | cont =>
      obtain ⟨σ', H', J', q⟩ := hsp
      exact ⟨σ', H', J'.ofTry ok, q⟩
    | ret u =>
      obtain ⟨v, σ', H', J', r, q⟩ := hsp
      exact ⟨v, σ', H', J'.ofTry ok, r, q⟩
end
end
end Kit
namespace Kit
open PySem PySem.Spec PyProof.Rows L2 LamX
/-! ### a lambda that is kept, and called later -/
/-- a cell that holds a value that is known -/
def CellO (c : Addr) (v : V) : HO := .ext fun h => ∃ u, RelV v u ∧ h.IsCell c (some u)
theorem cellO_ok {P : Program} {w : World} {H : Hp} {h : Heap} {c : Addr} {v : V} {u : Value} (r : RelV v u) (e : h.IsCell c (some u)) : ObjOk P w H h c (CellO c v) :=
  ⟨⟨u, r, e⟩, let ⟨o, ho, _⟩ := e; ⟨o, ho⟩, fun _ _ ⟨u, r, o, ho, hd⟩ k => ⟨u, r, o, k o ho, hd⟩⟩
abbrev Cap := Option (Str × Addr × V)
def capL : Cap → List (Str × Addr)
  | none => []
  | some (y, c, _) => [(y, c)]
def CapAt (H : Hp) : Cap → Prop
  | none => True
  | some (_, c, v) => H c = some (CellO c v)
def capA : Cap → List Addr
  | none => []
  | some (_, c, _) => [c]
def capN : Cap → List Str
  | none => []
  | some (y, _, _) => [y]
def capV : Cap → L2.St
  | none => []
  | some (_, _, v) => [some v]
/-- a lambda at f, its code object, what it has captured -/
def LamA (H : Hp) (f c' : Addr) (qual : Str) (params : Arguments) (body : Expr) (scope : Scope) (cap : Cap) : Prop :=
  (∃ pm ctv, H f = some (PinO f (PySem.W.kla_obj "<lambda>" qual params body scope (capL cap) pm c' ctv))) ∧ H c' = some (CodeO c' qual) ∧ CapAt H cap
theorem LamA.keep {H H' : Hp} {f c' : Addr} {qual : Str} {params : Arguments} {body : Expr} {scope : Scope} {cap : Cap} (h : LamA H f c' qual params body scope cap) (k : ∀ a ∈ f :: c' :: capA cap, ∀ o, H a = some o → H' a = some o) : LamA H' f c' qual params body scope cap := by
  obtain ⟨⟨pm, ctv, a⟩, b, c⟩ := h
  refine ⟨⟨pm, ctv, k f List.mem_cons_self _ a⟩, k c' (List.mem_cons_of_mem _ List.mem_cons_self) _ b, ?_⟩
  cases cap with
  | none => trivial
  | some x => exact k x.2.1 (by simp [capA]) _ c
/-- what the lambda's names are: its parameter, what it has captured -/
structure LamSc (scope : Scope) (a : Str) (cap : Cap) : Prop where
  kind : scope.kind = .function
  co : scope.isCoroutine = false
  gen : scope.isGenerator = false
  nocell : ∀ y ∈ scope.names, y.2 ≠ .cell
  par : scope.names.lookup a = some .local
  free : ∀ y, scope.names.lookup y = some .free → y ∈ capN cap
  nfree : ∀ y ∈ capN cap, scope.names.lookup y = some .free
/-- without the captured cell -/
def cutA (H : Hp) (l : List Addr) : Hp := fun b => if b ∈ l then none else H b
def putA (H H' : Hp) (l : List Addr) : Hp := fun b => if b ∈ l then H b else H' b
theorem capA_ext {H : Hp} {cap : Cap} (h : CapAt H cap) {b : Addr} (hb : b ∈ capA cap) : ∃ v, H b = some (CellO b v) := by
  cases cap with
  | none => cases hb
  | some x =>
    rw [show b = x.2.1 from List.mem_singleton.mp hb]
    exact ⟨_, h⟩
abbrev lamE (qual : Str) (scope : Scope) (L f c' : Addr) (cap : Cap) : Env := PySem.W.envX qual scope L f (.ref c') (capL cap)
def lamC (P : Program) (w : World) (K : PySem.W.Frag) (mg : Str → Option Value) (base : Heap) (A : Around) (outer : List Env) (s : Shared) (H : Hp) (E : XK) (qual : Str) (scope : Scope) (f c' : Addr) (a : Str) (cap : Cap) : Cx where
  prog := P
  w := w
  K := K
  mg := mg
  base := base
  A := A.deeper (lamE qual scope s.heap.objs.size f c' cap)
  N := a :: capN cap
  s_0 := s
  H_0 := cutA H (capA cap)
  env := lamE qual scope s.heap.objs.size f c' cap
  outer := outer
  stack := lamE qual scope s.heap.objs.size f c' cap :: outer
  ex := []
  fn := fun _ => false
  calm := true
  pn := []
  xe := fun e s' => wpAny (model P w) (A.deeper (lamE qual scope s.heap.objs.size f c' cap)) (leaving (lamE qual scope s.heap.objs.size f c' cap) e) (fun _ s'' => L2.CX P w outer H s E e s'') (fun e' s'' => L2.CX P w outer H s E e' s'') s'
theorem hok_cut {P : Program} {w : World} {H : Hp} {h : Heap} {cap : Cap} (hc : CapAt H cap) (k : HOk P w H h) : HOk P w (cutA H (capA cap)) h := fun b o e => by
  unfold cutA at e
  split at e
  · cases e
  · have ne : ∀ {d : Addr} {u : HO}, H d = some u → (∀ φ, u ≠ .ext φ) → cutA H (capA cap) d = some u := fun {d u} e2 z => by
      unfold cutA
      rw [if_neg fun m => by
        obtain ⟨v, y⟩ := capA_ext hc m
        rw [e2] at y
        exact z _ (Option.some.inj y)]
      exact e2
    exact (k b o e).stay (fun _ _ _ z => z) (fun d z => ne z (fun φ y => by cases y)) fun d xs z => ne z (fun φ y => by cases y)
theorem lam_in {P : Program} {w : World} {K : PySem.W.Frag} {mg : Str → Option Value} {base : Heap} {A : Around} {outer : List Env} {s : Shared} {H : Hp} {E : XK} {qual : Str} {params : Arguments} {body : Expr} {scope : Scope} {f c' : Addr} {a : Str} {cap : Cap} {v : V} {u : Value} {h₁ : Heap} {tk : Nat}
    (hc : CapAt H cap) (L : LamSc scope a cap) (e0 : Env0 P w K mg base A outer s H) (hd : A.handled = none) (r : RelV v u) (hns : h₁.Ns s.heap.objs.size fun y => ([(a, u)] : List (Str × Value)).reverse.lookup y) (kp : ∀ b o, s.heap.get? b = some o → h₁.get? b = some o) :
    Inv (lamC P w K mg base A outer s H E qual scope f c' a cap) [] (some v :: capV cap) (cutA H (capA cap)) { s with heap := h₁, toks := tk } := by
  have noA : ∀ b : Addr, b ∉ (lamC P w K mg base A outer s H E qual scope f c' a cap).ex := fun b z => absurd (show b ∈ ([] : List Addr) from z) (by simp)
  have cn : ∀ {b : Addr}, H b = none → cutA H (capA cap) b = none := fun {b} e => (by
    unfold cutA
    split
    · rfl
    · exact e)
  have look : ∀ {y : Str} {d : Addr}, (capL cap).lookup y = some d → d ∈ capA cap ∧ y ∈ capN cap := fun {y d} e => by
    cases cap with
    | none => cases e
    | some x =>
      have hm := PySem.mem_of_lookup e
      have hm := List.mem_singleton.mp hm
      rw [Prod.mk.injEq] at hm
      exact ⟨by rw [hm.2]; exact List.mem_singleton.mpr rfl, by rw [hm.1]; exact List.mem_singleton.mpr rfl⟩
  have cell : ∀ {d : Addr}, d ∈ capA cap → ∃ z u', H d = some (CellO d z) ∧ RelV z u' ∧ h₁.IsCell d (some u') := fun {d} m => by
    obtain ⟨z, e⟩ := capA_ext hc m
    obtain ⟨⟨u', r', o, ho, hd'⟩, _, _⟩ := e0.hok d _ e
    exact ⟨z, u', e, r', o, kp _ _ ho, hd'⟩
  refine ⟨⟨e0.mod, L.kind, rfl, rfl, Nat.le_refl _, fun y z c e1 e2 => ?_, fun y hy => ?_, fun y c z _ => ?_, fun _ => hd, Around.frames_deeper e0.frames, .inr ⟨rfl, rfl⟩, fun b z => absurd z (noA b), fun b o e => ⟨(e0.bs b o e).1, cn (e0.bs b o e).2⟩, e0.bsz, fun b _ _ => noA b,
      fun b z => absurd z (noA b), e0.funs, fun b hb => cn (e0.frf b hb)⟩,
    rfl, e0.bare, Un.kept kp, ⟨_, hns, fun i y z e1 e2 e3 => ?_⟩, fun y c e => ?_, cn (e0.hok.fresh (Nat.le_refl _)), fun y c e => ?_, fun q hq => absurd (show q ∈ ([] : List (Addr × Obj)) ++ [] from hq) (by simp), (hok_cut hc e0.hok).kept kp, ?_⟩
  · have h1 := (look (show (capL cap).lookup y = some c from e1)).2
    have h2 := (look (show (capL cap).lookup z = some c from e2)).2
    cases cap with
    | none => cases h1
    | some x => rw [List.mem_singleton.mp h1, List.mem_singleton.mp h2]
  · have hy : scope.names.lookup y = some .cell ∨ scope.names.lookup y = some .free := hy
    rcases hy with hy | hy
    · exact absurd rfl (L.nocell _ (PySem.mem_of_lookup hy))
    · have h1 := L.free y hy
      cases cap with
      | none => cases h1
      | some x =>
        rw [List.mem_singleton.mp h1]
        exact ⟨x.2.1, by show List.lookup x.1 [(x.1, x.2.1)] = _; simp⟩
  · have z : false = true := z
    cases z
  · have e1 : (a :: capN cap)[i]? = some y := e1
    have e2 : (some v :: capV cap)[i]? = some (some z) := e2
    match i, e1, e2 with
    | 0, e1, e2 =>
      cases e1
      cases e2
      exact ⟨u, r, .inl ⟨L.par, by show List.lookup a [(a, u)] = some u; simp⟩⟩
    | j + 1, e1, e2 =>
      cases cap with
      | none => cases e2
      | some x =>
        match j, e1, e2 with
        | 0, e1, e2 =>
          have e1 : x.1 = y := Option.some.inj e1
          have e2 : x.2.2 = z := Option.some.inj (Option.some.inj e2)
          subst e1 e2
          obtain ⟨z', u', h1, h2, h3⟩ := cell (d := x.2.1) (List.mem_singleton.mpr rfl)
          have h0 : H x.2.1 = some (CellO x.2.1 x.2.2) := hc
          obtain ⟨⟨u2, r2, o2, ho2, hd2⟩, _, _⟩ := e0.hok _ _ h0
          exact ⟨u2, r2, .inr ⟨.inr (L.nfree _ (List.mem_singleton.mpr rfl)), x.2.1, by show List.lookup x.1 [(x.1, x.2.1)] = _; simp, o2, kp _ _ ho2, hd2⟩⟩
        | n + 1, e1, e2 => cases e2
  · obtain ⟨z, u', h1, h2, h3⟩ := cell (look (show (capL cap).lookup y = some c from e)).1
    exact ⟨_, h3⟩
  · show cutA H (capA cap) c = none
    unfold cutA
    rw [if_pos (look (show (capL cap).lookup y = some c from e)).1]
  · cases cap <;> rfl
/-- a lambda called with one value -/
theorem run_lam {P : Program} {w : World} {K : PySem.W.Frag} {mg : Str → Option Value} {base : Heap} {A : Around} {outer : List Env} {s : Shared} {H : Hp} {Q : VK} {E : XK} {qual : Str} {params : Arguments} {body : Expr} {scope : Scope} {f c' : Addr} {a : Str} {cap : Cap} {v : V} {u : Value} {k : Nat} {tb : TE}
    (hA : LamA H f c' qual params body scope cap) (L : LamSc scope a cap) (hr : Room (k + 1) A) (e0 : Env0 P w K mg base A outer s H) (r : RelV v u)
    (hbind : ∀ (cl : List (Str × Addr)) (pm cv ctv : Value) (u : Value), bindArgs (PySem.W.kla_fn "<lambda>" qual params body scope cl pm cv ctv) ⟨[u], []⟩ = pure [(a, u)])
    (hbody : Room k (A.deeper (lamE qual scope s.heap.objs.size f c' cap)) → PE (lamC P w K mg base A outer s H E qual scope f c' a cap) body tb)
    (h : tb (some v :: capV cap) (cutA H (capA cap)) fun v' H' => Q v' (putA H H' (capA cap))) :
    codeAny (model P w) A (.call (.ref f) ⟨[u], []⟩) (CR (L2.CX P w) outer P w H s Q E) s := by
  obtain ⟨⟨pm, ctv, hf⟩, hco, hc⟩ := hA
  obtain ⟨hfg, _, _⟩ := e0.hok f _ hf
  obtain ⟨⟨oc, vs, t, hoc, hdc, hvc⟩, _, _⟩ := e0.hok c' _ hco
  have lim : s.heap.NoLimit := e0.mod.nolimit.keeps fun b o e => (e0.bs b o e).1
  refine PySem.W.kla_callFunE hr.depth hfg rfl L.co L.gen rfl ⟨c', oc, vs, t, rfl, hoc, hdc, hvc⟩ ?_
  rw [hbind]
  refine wpAny_pure (wpAny_newFunctionEnv L.nocell (fun y hy => by rw [List.mem_singleton.mp hy]; exact L.par) (fun h₁ hns hsb => ⟨lim.fresh _ hsb, ?_⟩) L.kind)
  show codeAny _ _ (.expr body (lamE qual scope s.heap.objs.size f c' cap)) _ _
  have kp : ∀ b o, s.heap.get? b = some o → h₁.get? b = some o := fun b o e => hsb.extBut b o (Nat.ne_of_lt (Heap.lt_size e)) (Heap.get?_push_of_some _ e)
  have J := lam_in (E := E) (f := f) (c' := c') (qual := qual) (params := params) (body := body) (tk := s.toks + ([(a, u)] : List (Str × Value)).length) hc L e0 hr.hd r hns kp
  refine PySem.W.kla_codeExpr (wpAny_mono ((hbody (hr.deeper _)).run [] _ _ _ _ J h) (fun v' s' hq => ?_) fun e s' hq => hq)
  obtain ⟨w', H', J', rv, q⟩ := hq
  have out : ∀ {b : Addr}, b ∈ capA cap → H' b = none := fun {b} m => by
    cases cap with
    | none => cases m
    | some x =>
      rw [List.mem_singleton.mp m]
      exact J'.freeC x.1 x.2.1 (by show List.lookup x.1 [(x.1, x.2.1)] = _; simp)
  have pn : ∀ {b : Addr} {o : HO}, H' b = some o → putA H H' (capA cap) b = some o := fun {b o} e => by
    unfold putA
    rw [if_neg fun m => by rw [out m] at e; cases e]
    exact e
  have cn : ∀ {b : Addr} {o : HO}, H b = some o → (∀ φ, o ≠ .ext φ) → cutA H (capA cap) b = some o := fun {b o} e z => by
    unfold cutA
    rw [if_neg fun m => by
      obtain ⟨v, y⟩ := capA_ext hc m
      rw [e] at y
      exact z _ (Option.some.inj y)]
    exact e
  have c0 : ∀ {b : Addr}, H b = none → cutA H (capA cap) b = none := fun {b} e => (by
    unfold cutA
    split
    · rfl
    · exact e)
  refine ⟨w', putA H H' (capA cap), J'.os, J'.bare, ⟨fun b o e n => J'.base.keep b o e (c0 n), fun b o e n => J'.base.slot b o e (c0 n), fun b o e n hx => ?_, J'.base.there, fun b xs e => pn (J'.base.tups b xs (cn e fun φ z => by cases z)), fun b o z e => pn (J'.base.frzs b o z (cn e fun φ z => by cases z)), fun b ps e => ?_⟩, fun b o e => ?_, rv, q⟩
  · have := J'.base.free b o e (c0 n) hx
    unfold putA
    split
    · exact n
    · exact this
  · obtain ⟨more, z⟩ := J'.base.tbls b ps (cn e fun φ z => by cases z)
    exact ⟨more, pn z⟩
  · by_cases m : b ∈ capA cap
    · unfold putA at e
      rw [if_pos m] at e
      cases cap with
      | none => cases m
      | some x =>
        have hb : b = x.2.1 := List.mem_singleton.mp m
        subst hb
        have hx : H x.2.1 = some (CellO x.2.1 x.2.2) := hc
        rw [hx] at e
        cases e
        obtain ⟨mm, hmm, hl⟩ := J'.loc
        obtain ⟨u', r', lk⟩ := hl 1 x.1 x.2.2 rfl rfl (.inr (.inr (L.nfree _ (List.mem_singleton.mpr rfl))))
        rcases lk with ⟨k1, _⟩ | ⟨_, c, hcl, hcell⟩
        · have k1 : scope.names.lookup x.1 = some .local := k1
          rw [L.nfree x.1 (List.mem_singleton.mpr rfl)] at k1
          cases k1
        · have hcl : List.lookup x.1 [(x.1, x.2.1)] = some c := hcl
          have : c = x.2.1 := by simpa using hcl.symm
          subst this
          exact cellO_ok r' hcell
    · unfold putA at e
      rw [if_neg m] at e
      exact (J'.hok b o e).stay (fun _ _ _ z => z) (fun d z => pn z) fun d xs z => pn z
section
variable {X : Cx} {pins : List (Addr × Obj)} {σ : L2.St} {H H0 : Hp} {s sI : Shared}
theorem track2 {a : Addr} {oe : Obj} (J : Inv X pins σ H0 sI) (J4 : Inv X pins σ H s) (hx : X.ex = []) (hn : sI.heap.get? a = none) (na : H a = none) (ha : s.heap.get? a = some oe) (hd : ∀ v, oe.data ≠ .cell v) (hd2 : ∀ es n, oe.data ≠ .dict es n) : Inv X pins σ (upd H a (PinO a oe)) s := by
  have ne : ∀ {b : Addr} {o : Obj}, sI.heap.get? b = some o → b ≠ a := fun e z => by
    rw [z, hn] at e
    cases e
  have nL : a ≠ X.env.locals := fun z => by
    obtain ⟨m, ⟨o, es, ep, e, hdd, _⟩, _⟩ := J4.loc
    rw [← z, ha] at e
    cases e
    exact hd2 _ _ hdd
  have n0 : ∀ {b : Addr} {o : Obj}, X.s_0.heap.get? b = some o → b ≠ a := fun {b o} e => by
    obtain ⟨o', e'⟩ := J.base.there b o e (by rw [hx]; exact fun z => nomatch z)
    exact ne e'
  have keep : ∀ {b : Addr} {u : HO}, H b = some u → upd H a (PinO a oe) b = some u := fun e => by
    rw [upd_ne (ne_of_none e na)]
    exact e
  refine ⟨J4.ok, J4.os, J4.bare, ⟨J4.base.keep, J4.base.slot, fun b o e n hq => ?_, J4.base.there, fun b xs e => keep (J4.base.tups b xs e), fun b o u e => keep (J4.base.frzs b o u e), fun b ps e => ?_⟩, J4.loc, J4.cell, ?_, fun x c e => ?_, fun p hp => ?_, J4.hok.laidN (fun _ _ e => e) na (pinO_ok ha), J4.len⟩
  · rw [upd_ne (n0 e)]
    exact J4.base.free b o e n hq
  · obtain ⟨m, q⟩ := J4.base.tbls b ps e
    exact ⟨m, keep q⟩
  · rw [upd_ne (Ne.symm nL)]
    exact J4.free
  · have hc : c ≠ a := fun z => by
      obtain ⟨v, o, ho, hv⟩ := J4.cell x c e
      rw [z, ha] at ho
      cases ho
      exact hd _ hv
    rw [upd_ne hc]
    exact J4.freeC x c e
  · obtain ⟨e, n, r⟩ := J4.pin p hp
    have hp' : p.1 ≠ a := ne (J.pin p hp).1
    exact ⟨e, by rw [upd_ne hp']; exact n, r⟩
/-- what is so of the state behind a lambda's making: at f a new function object, known from now on -/
def LamMade (P : Addr) (T : List (Addr × Str)) (q : Str) (params : Arguments) (body : Expr) (scope : Scope) (cl : List (Str × Addr)) (H : Hp) (Q : VK) : Prop :=
  ∀ (f c' : Addr) (pm ctv : Value) (H2 : Hp), Off [P] H H2 → Tabs T H2 → H f = none → H2 f = some (PinO f (PySem.W.kla_obj "<lambda>" q params body scope cl pm c' ctv)) → H2 c' = some (CodeO c' q) → (H P = some (.tbl #[]) → H c' = none) → Q (.ref f) H2
def tLamK (P : Addr) (T : List (Addr × Str)) (q : Str) (params : Arguments) (body : Expr) (scope : Scope) (cl : List (Str × Addr)) : TE := fun _ H Q => Tabs T H ∧ LamMade P T q params body scope cl H Q
theorem tabs_pin {T : List (Addr × Str)} {a : Addr} {oe : Obj} (h : Tabs T H) (na : H a = none) : Tabs T (upd H a (PinO a oe)) := h.ext fun b o e => by
  rw [upd_ne (ne_of_none e na)]
  exact e
theorem offN_pin {a P : Addr} {oe : Obj} (h : Off [P] H0 H) (na : H a = none) : Off [P] H0 (upd H a (PinO a oe)) := fun b o n e => by
  have := h b o n e
  rw [upd_ne (ne_of_none this na)]
  exact this
theorem pe_lamK {T : List (Addr × Str)} {c P : Addr} {params : Arguments} {body : Expr} {scope : Scope} {pos : Pos} (TB : TabB X.base X.mg c P) (hcode : X.env.code = .ref c) (hm : (P, X.env.qual ++ "<lambda>") ∈ T) (hu : ∀ p ∈ T, p.1 = P → p.2 = X.env.qual ++ "<lambda>") (hex : X.ex = [])
    (hdef : defaultsOf params X.env = ([], [])) (hfree : ∀ y ∈ scope.names, y.2 = .free → ∃ c, X.env.cells.lookup y.1 = some c) :
    PE X (.Lambda params body scope pos) (tLamK P T (X.env.qual ++ "<lambda>") params body scope (cloFrom X.env.cells scope.names [])) := by
  refine ⟨fun pins s σ H Q I h => ?_⟩
  obtain ⟨hT, h⟩ := h
  obtain ⟨ps, hP, ht, ha⟩ := hT _ hm
  have hPo : s.heap.get? P = some { cls := .none, data := .fields ps } := I.hok P _ hP
  have hbi : s.heap.BuiltinsAt X.mg P := TB.bm.keeps I.bk
  refine PySem.W.kla_eval hdef ?_
  cases hc : codeAmong pos ps.toList with
  | some cv =>
    obtain ⟨c', rfl, hco⟩ := ha pos cv hc
    refine PySem.W.kla_makeFunctionHit (mg := X.mg) (c := c) (P := P) (ps := ps) (closure_ok hfree) I.ok.glob (I.mod.glob.keeps I.bk) hcode (TB.code.keeps I.bk) hPo ht hc hbi fun ctv h' tk hx hsz => ?_
    have fr : s.heap.get? h'.objs.size = none := Heap.get?_none_of_le hsz
    have nf : H h'.objs.size = none := I.hok.fresh hsz
    have J := I.kept (h' := h'.push (PySem.W.kla_obj "<lambda>" (X.env.qual ++ "<lambda>") params body scope (cloFrom X.env.cells scope.names []) ((X.mg "__name__").getD .none) c' ctv)) (t' := tk) fun b o e => Heap.get?_push_of_some _ (hx b o e)
    have J2 := track2 I J hex fr nf (Heap.get?_push_size _ rfl) (fun v z => by cases z) (fun es n z => by cases z)
    exact ⟨V.ref _, _, J2, rfl, h _ c' _ ctv _ (offN_pin Off.refl nf) (tabs_pin hT nf) nf upd_same (by rw [upd_ne (ne_of_none hco nf)]; exact hco) (fun z => by
      rw [hP] at z
      cases z
      cases hc)⟩
  | none =>
    refine PySem.W.kla_makeFunction (mg := X.mg) (c := c) (P := P) (ps := ps) (closure_ok hfree) I.ok.glob (I.mod.glob.keeps I.bk) hcode (TB.code.keeps I.bk) hPo ht hc TB.gP hbi fun c' ctv h' tk hx hge hlt hrec htb => ?_
    obtain ⟨c2, oc, vs, t, e2, hoc, hd, hv⟩ := hrec
    cases e2
    have hsz : s.heap.objs.size ≤ h'.objs.size := Nat.le_trans hge (Nat.le_of_lt hlt)
    have nC : H c' = none := I.hok.fresh hge
    have nPc : P ≠ c' := ne_of_none hP nC
    have fr : s.heap.get? h'.objs.size = none := Heap.get?_none_of_le hsz
    have nf0 : H h'.objs.size = none := I.hok.fresh hsz
    have J := inv_table (t' := tk) (q := X.env.qual ++ "<lambda>") (more := #[rawInt pos.line, rawInt pos.col, .ref c']) (h' := h'.push (PySem.W.kla_obj "<lambda>" (X.env.qual ++ "<lambda>") params body scope (cloFrom X.env.cells scope.names []) ((X.mg "__name__").getD .none) c' ctv)) I hP
      (fun b o hb e => Heap.get?_push_of_some _ (hx b o hb e)) (Heap.get?_push_of_some _ htb) hge ⟨oc, vs, t, Heap.get?_push_of_some _ hoc, hd, hv⟩
    generalize hH1 : upd (upd H P (.tbl (ps ++ #[rawInt pos.line, rawInt pos.col, .ref c']))) c' (CodeO c' (X.env.qual ++ "<lambda>")) = H1 at J
    have atc : H1 c' = some (CodeO c' (X.env.qual ++ "<lambda>")) := by rw [← hH1]; exact upd_same
    have atP : H1 P = some (.tbl (ps ++ #[rawInt pos.line, rawInt pos.col, .ref c'])) := by rw [← hH1, upd_ne nPc]; exact upd_same
    have oth : ∀ b, b ≠ P → b ≠ c' → H1 b = H b := fun b h1 h2 => by rw [← hH1, upd_ne h2, upd_ne h1]
    have hE : ExtN H H1 := fun b o e n => by
      by_cases z : b = P
      · rw [z, hP] at e
        exact absurd (Option.some.inj e).symm (n ps)
      · rw [oth b z (ne_of_none e nC)]
        exact e
    have hOf : Off [P] H H1 := fun b o n e => by
      rw [oth b (fun z => n (by rw [z]; exact List.mem_singleton.mpr rfl)) (ne_of_none e nC)]
      exact e
    have nf : H1 h'.objs.size = none := by
      rw [oth _ (fun z => by rw [z, hP] at nf0; cases nf0) (Nat.ne_of_gt hlt)]
      exact nf0
    have hTb : Tabs T H1 := fun p hp => by
      by_cases hb : p.1 = P
      · rw [hu p hp hb, hb]
        have eL : (ps ++ #[rawInt pos.line, rawInt pos.col, .ref c']).toList = ps.toList ++ [rawInt pos.line, rawInt pos.col, .ref c'] := by simp
        refine ⟨_, atP, by rw [eL]; exact PySem.TriplesOk_snoc _ _ _ _ ht, fun p' cv hcv => ?_⟩
        rw [eL] at hcv
        rcases among_app _ ht hcv with z | z
        · obtain ⟨d, e1, e2⟩ := ha p' cv z
          exact ⟨d, e1, hE _ _ e2 codeO_ne⟩
        · exact ⟨c', z, atc⟩
      · obtain ⟨qs, a1, a2, a3⟩ := hT p hp
        refine ⟨qs, by rw [oth _ hb (ne_of_none a1 nC)]; exact a1, a2, fun p' cv hcv => ?_⟩
        obtain ⟨d, e1, e2⟩ := a3 p' cv hcv
        exact ⟨d, e1, hE _ _ e2 codeO_ne⟩
    have J2 := track2 I J hex fr nf (Heap.get?_push_size _ rfl) (fun v z => by cases z) (fun es n z => by cases z)
    exact ⟨V.ref _, _, J2, rfl, h _ c' _ ctv _ (offN_pin hOf nf) (tabs_pin hTb nf) nf0 upd_same (by rw [upd_ne (ne_of_none atc nf)]; exact atc) (fun _ => nC)⟩
end
/-! ### such a thing called by way of a field -/
/-- what a thing at f that is called with one value promises -/
def LamOk (P : Program) (w : World) (K : PySem.W.Frag) (mg : Str → Option Value) (base : Heap) (k : Nat) (f : Addr) (sp : Sp) : Prop :=
  ∀ (A : Around) (outer : List Env) (s : Shared) (H : Hp) (u : Value) (v : V) (Q : VK) (E : XK), Room k A → Env0 P w K mg base A outer s H → RelV v u → sp [v] H Q E → codeAny (model P w) A (.call (.ref f) ⟨[u], []⟩) (CR (L2.CX P w) outer P w H s Q E) s
abbrev fnO (fd : FuncData) : Obj := { cls := .type "function", data := .func fd }
def fcK (P : Program) (w : World) (K : PySem.W.Frag) (mg : Str → Option Value) (base : Heap) (k : Nat) (m : Str) (E : XK) (σ : L2.St) (t : TA) (Q : VK) : V → Hp → Prop := fun x H1 =>
  ∃ (a C dx : Addr) (fs : List (Str × V)) (f : Addr) (sp : Sp) (fd : FuncData), x = .ref a ∧ H1 a = some (.ins C dx fs) ∧ Cls K C ∧ NoAttr K C m ∧ fs.lookup m = some (.ref f) ∧ LamOk P w K mg base k f sp ∧ H1 f = some (PinO f (fnO fd)) ∧
    t σ H1 fun vs H2 => H2 f = some (PinO f (fnO fd)) ∧ (∃ v, vs = [v]) ∧ sp vs H2 Q E
def tFC (P : Program) (w : World) (K : PySem.W.Frag) (mg : Str → Option Value) (base : Heap) (k : Nat) (m : Str) (E : L2.St → XK) (te : TE) (t : TA) : TE := fun σ H Q => te σ H (fcK P w K mg base k m (E σ) σ t Q)
theorem vals_one {v : V} {us : List Value} (h : Vals [v] us) : ∃ u, us = [u] ∧ RelV v u := by
  cases us with
  | nil => cases h
  | cons u r =>
    cases h with
    | cons a b =>
      cases b
      exact ⟨u, rfl, a⟩
theorem pe_fcall {X : Cx} {o e : Expr} {m : Str} {te : TE} {t : TA} {k : Nat} {E : L2.St → XK} {apos pos : Pos} {pl : Sem Bool} (he : PE X o te) (hr : Room k X.A) (hx : ∀ σ, PassesAt (L2.CX X.prog X.w) X σ (E σ)) (ha : PA X [e] t)
    (hst : starEach [e] X.env = (false, eval e X.env) :: starEach [] X.env := by rfl) (hpl : (backTo pos (starEach [] X.env)).any (·.1) = false := by rfl)
    (hev : eval (.Call (.Attribute o m apos) [e] [] pos) X.env = (do let ov ← eval o X.env; standAt apos.atName; let (f, first) ← holding [ov] (getMethod ov m pl); callWith pos f first (backTo pos (starEach [e] X.env)) (backToKw pos (keywordEach [] X.env))) := by rfl) :
    PE X (.Call (.Attribute o m apos) [e] [] pos) (tFC X.prog X.w X.K X.mg X.base k m E te t) := by
  refine ⟨fun pins s σ H Q I h => ?_⟩
  refine PySem.W.methodCall_KW (pl := pl) (thn (he.run pins s σ H _ I h) fun u s1 ⟨x, H1, I1, rx, a, C, dx, fs, f, sp, fd, ex, ea, c, na, l, ok, hp, q⟩ => ?_) hev
  subst ex
  have eu : u = Value.ref a := rx
  subst eu
  obtain ⟨mA, O, _, _, _, _⟩ := ins_get I1.hok ea
  obtain ⟨od, J, _⟩ := O.look
  refine PySem.W.method_usual I1.kIn J (PySem.W.plainGet_of (c.get m)).1 (PySem.W.plainGet_of (c.get m)).2 na rfl (getattr_ok I1 ea c na l fun u2 s2 I2 r2 => ?_)
  have e2 : u2 = Value.ref f := r2
  subst e2
  refine PySem.W.callWith_F ⟨_, _, _, _, (I2.hok f _ hp).1⟩ (thn (ha.run pos pins s2 σ H1 _ I2 q) fun us s3 ⟨vs, H3, I3, r3, hp3, ⟨v, ev⟩, q3⟩ => ⟨⟨_, _, _, _, (I3.hok f _ hp3).1⟩, ?_⟩) hst hpl
  subst ev
  obtain ⟨u3, eu, rv⟩ := vals_one r3
  subst eu
  refine wpAny_call (codeAny_mono (ok X.A X.stack s3 H3 u3 v Q (E σ) hr I3.env0 rv q3) fun r s' hq => ?_)
  cases r with
  | error e => exact hx σ pins H3 s3 e s' I3 hq
  | ok fl =>
    cases fl with
    | ret u => exact I3.after hq
    | next => exact False.elim hq
    | brk => exact False.elim hq
    | cont => exact False.elim hq
/-! ### a def that hands out a lambda: its ends told with its names -/
structure EndsC where
  nx : L2.St → Hp → Prop
  rt : V → L2.St → Hp → Prop
def SPC (X : Cx) (pins : List (Addr × Obj)) (D : EndsC) (f : Flow) (s' : Shared) : Prop := match f with
  | .next => ∃ σ' H', Inv X pins σ' H' s' ∧ D.nx σ' H'
  | .ret u => ∃ v σ' H', Inv X pins σ' H' s' ∧ RelV v u ∧ D.rt v σ' H'
  | _ => False
abbrev TSC := EndsC → L2.St → Hp → Prop
structure PSC (X : Cx) (st : Stmt) (t : TSC) : Prop where
  run : ∀ (pins : List (Addr × Obj)) (s : Shared) (σ : L2.St) (H : Hp) (D : EndsC), Inv X pins σ H s → t D σ H → wpAny (model X.prog X.w) X.A (exec st X.env) (SPC X pins D) X.xe s
structure PSCs (X : Cx) (st : List Stmt) (t : TSC) : Prop where
  run : ∀ (pins : List (Addr × Obj)) (s : Shared) (σ : L2.St) (H : Hp) (D : EndsC), Inv X pins σ H s → t D σ H → wpAny (model X.prog X.w) X.A (execs st X.env) (SPC X pins D) X.xe s
section
variable {X : Cx} {st : Stmt} {rest : List Stmt}
def tOldC (t : TS) : TSC := fun D σ H => t { nx := D.nx, rt := fun v H' => ∀ σ', D.rt v σ' H' } σ H
def tRetC (te : TE) : TSC := fun D σ H => te σ H fun v H' => D.rt v σ H'
def tIfC (c : TT) (t u : TSC) : TSC := fun D σ H => c σ H fun b H1 => if b = true then t D σ H1 else u D σ H1
def tSeqC (t u : TSC) : TSC := fun D σ H => t { D with nx := u D } σ H
def tNilC : TSC := fun D σ H => D.nx σ H
theorem psc_old {t : TS} (h : PS X st t) : PSC X st (tOldC t) := ⟨fun pins s σ H D I q => by
  refine thn (h.run pins s σ H _ I q) fun f s1 z => ?_
  cases f with
  | next => exact z
  | ret v =>
    obtain ⟨v', σ', H', a, b, c⟩ := z
    exact ⟨v', σ', H', a, b, c σ'⟩
  | brk =>
    obtain ⟨_, _, _, z⟩ := z
    exact z
  | cont =>
    obtain ⟨_, _, _, z⟩ := z
    exact z⟩
theorem psc_ret {e : Expr} {te : TE} {pos : Pos} (he : PE X e te) : PSC X (.Return (some e) pos) (tRetC te) := ⟨fun pins s σ H D I q => wpAny_Return_some (thn (he.run pins s σ H _ I q) fun _ _ ⟨x, H1, I1, r1, q1⟩ => ⟨x, σ, H1, I1, r1, q1⟩)⟩
theorem psc_if {c : Expr} {a b : List Stmt} {tc : TT} {t u : TSC} {pos : Pos} (hc : PT X c tc) (ha : PSCs X a t) (hb : PSCs X b u) : PSC X (.If c a b pos) (tIfC tc t u) := ⟨fun pins s σ H D I q => wpAny_If (thn (hc.run pins s σ H _ I q) fun d s1 ⟨H1, I1, q1⟩ => by
  cases d with
  | true => exact ha.run pins s1 σ H1 D I1 q1
  | false => exact hb.run pins s1 σ H1 D I1 q1)⟩
theorem pscs_nil : PSCs X [] tNilC := ⟨fun pins s σ H D I q => wpAny_execs_nil ⟨σ, H, I, q⟩⟩
theorem pscs_cons {t u : TSC} (h1 : PSC X st t) (h2 : PSCs X rest u) : PSCs X (st :: rest) (tSeqC t u) := ⟨fun pins s σ H D I q => by
  refine wpAny_execs_cons (thn (h1.run pins s σ H { D with nx := u D } I q) fun f s1 z => ?_)
  cases f with
  | next =>
    obtain ⟨σ', H', I', z⟩ := z
    exact h2.run pins s1 σ' H' D I' z
  | ret v => exact z
  | brk => exact z
  | cont => exact z⟩
end
def trkH (H : Hp) : Cap → Hp
  | none => H
  | some (_, c, z) => upd H c (CellO c z)
/-- what is captured: a cell of the frame, with what stands in it at the end -/
def CapX (X : Cx) (σ : L2.St) : Cap → Prop
  | none => True
  | some (y, c, z) => X.env.scope.names.lookup y = some .cell ∧ X.env.cells.lookup y = some c ∧ ∃ i : Nat, X.N[i]? = some y ∧ σ[i]? = some (some z)
theorem okC {P : Program} {w : World} {K : PySem.W.Frag} {mg : Str → Option Value} {base : Heap} {x qual : Str} {st : Stmt} {f : Addr} {fd : FuncData} {N ps : List Str} {k : Nat} {sp : Sp} (F : Fun K x qual st f fd) (S : FnScope N ps (defScope st)) (len : ∀ vs H Q E, sp vs H Q E → vs.length = ps.length)
    (hbody : ∀ (A : Around) (outer : List Env) (s : Shared) (H : Hp) (vs : List V) (Q : VK) (E : XK), Room k (A.deeper (envOfC qual (defScope st) s.heap.objs.size f fd.code)) → sp vs H Q E →
      ∃ t, PSCs (cxOf (L2.CX P w) P w K mg base N qual (defScope st) f fd.code A outer s H E) (defBody st) t ∧
        t { nx := fun _ H' => Q .non H', rt := fun v σ' H' => ∃ cap, CapX (cxOf (L2.CX P w) P w K mg base N qual (defScope st) f fd.code A outer s H E) σ' cap ∧ Q v (trkH H' cap) } (L2.start N vs) H) : FnOk P w K mg base (L2.CX P w) (k + 1) f fd ps sp := by
  obtain ⟨oc, od, kV, doc, pm, an, cdv, ct, osl, rfl, lk, hcd⟩ := F.ex
  refine ⟨len, fun A outer s H args us vs Q E hr e0 hb r hsp => ?_⟩
  have hl := len _ _ _ _ hsp
  have KX : K.In s.heap := e0.mod.kin.keeps fun b o e => (e0.bs b o e).1
  have lim : s.heap.NoLimit := e0.mod.nolimit.keeps fun b o e => (e0.bs b o e).1
  have hkind : ∀ y ∈ ps.zip us, (defScope st).names.lookup y.1 = some .local ∨ ((defScope st).names.lookup y.1 = some .cell ∧ ((cellsFrom (s.heap.objs.size + 1) (defScope st).names []).lookup y.1).isSome = true) := fun ⟨n, v⟩ hy => by
    rcases S.par n (List.of_mem_zip hy).1 with q | q
    · exact .inl q
    · exact .inr ⟨q, PySem.W.cellsFrom_some _ _ _ (.inl q)⟩
  refine codeAny_call_function hr.depth (KX _ _ lk) rfl S.co S.gen rfl (PySem.W.codeRec_of KX hcd) (hb _ _ _ _ ?_)
  refine wpAny_newFunctionEnv_cells S.kind hkind fun env he s1 y => ?_
  subst he
  refine ⟨lim.keeps y.toInCall.keep, codeAny_func ?_⟩
  obtain ⟨t, ht, hq⟩ := hbody A outer s H vs Q E (hr.deeper _) hsp
  have I := inv_start (CX := L2.CX P w) (E := E) S hr.hd e0 hl r y
  refine wpAny_mono (ht.run [] s1 (L2.start N vs) H _ I hq) (fun fl s' hs => ?_) fun e s' hs => hs
  cases fl with
  | next =>
    obtain ⟨σ', H', J, q⟩ := hs
    exact ⟨V.non, H', J.os, J.bare, J.base, J.hok, rfl, q⟩
  | brk => exact False.elim hs
  | cont => exact False.elim hs
  | ret u =>
    obtain ⟨v, σ', H', J, rv, cap, hcap, q⟩ := hs
    cases cap with
    | none => exact ⟨v, H', J.os, J.bare, J.base, J.hok, rv, q⟩
    | some c3 =>
      obtain ⟨y, c, z⟩ := c3
      obtain ⟨k1, k2, i, k3, k4⟩ := hcap
      have nc : H' c = none := J.freeC y c k2
      have hge : s.heap.objs.size ≤ c := J.ok.cab y c rfl k2
      have keep : ∀ {b : Addr} {o : HO}, H' b = some o → upd H' c (CellO c z) b = some o := fun e => by
        rw [upd_ne (ne_of_none e nc)]
        exact e
      obtain ⟨m, hm, hlc⟩ := J.loc
      obtain ⟨u', ru, look⟩ := hlc i y z k3 k4 (.inr (.inl k1))
      have hcell : s'.heap.IsCell c (some u') := by
        rcases look with ⟨l1, _⟩ | ⟨_, c2, l2, l3⟩
        · have l1 : (defScope st).names.lookup y = some .local := l1
          have k1 : (defScope st).names.lookup y = some .cell := k1
          rw [k1] at l1
          cases l1
        · rw [k2] at l2
          cases l2
          exact l3
      refine ⟨v, upd H' c (CellO c z), J.os, J.bare, ⟨J.base.keep, J.base.slot, fun b o e n hq => ?_, J.base.there, fun b xs e => keep (J.base.tups b xs e), fun b o u e => keep (J.base.frzs b o u e), fun b ps e => ?_⟩, J.hok.laidN (fun _ _ e => e) nc (cellO_ok ru hcell), rv, q⟩
      · have hb : b ≠ c := fun z => Nat.lt_irrefl _ (Nat.lt_of_lt_of_le (by rw [← z]; exact Heap.lt_size e) hge)
        rw [upd_ne hb]
        exact J.base.free b o e n hq
      · obtain ⟨more, e2⟩ := J.base.tbls b ps e
        exact ⟨more, keep e2⟩
/-! ### the head's facts with tables of code objects -/
def tbK (g : Addr → Option Obj) (a : Addr) : Addr := match g a with
  | some ⟨_, _, .fields vs, _⟩ => (match (vs[11]? : Option Value) with
    | some (.ref p) => p
    | _ => 0)
  | _ => 0
def emB (K : PySem.W.Frag) (p : Addr) : Bool := match K.lookup p with
  | some ⟨.none, none, .fields ⟨[]⟩, ⟨[]⟩⟩ => true
  | _ => false
theorem emB_ok {K : PySem.W.Frag} {p : Addr} {h : Heap} (X : K.In h) (e : emB K p = true) : h.get? p = some { cls := .none, data := .fields #[] } := by
  unfold emB at e
  split at e
  · rename_i q
    exact X _ _ q
  · cases e
def cdB (K : PySem.W.Frag) (f c : Addr) : Bool := match K.lookup f with
  | some ⟨_, _, .func fd, _⟩ => (match fd.code with
    | .ref b => decide (b = c)
    | _ => false)
  | _ => false
theorem cdB_ok {K : PySem.W.Frag} {f c : Addr} {oc : Value} {od : Option Addr} {fd : FuncData} {sl : Array (Option Value)} (e : cdB K f c = true) (l : K.lookup f = some ⟨oc, od, .func fd, sl⟩) : fd.code = .ref c := by
  unfold cdB at e
  rw [l] at e
  dsimp only at e
  split at e
  · rename_i b q
    rw [q, of_decide_eq_true e]
  · cases e
theorem fun_code {K : PySem.W.Frag} {x qual : Str} {st : Stmt} {f c : Addr} {fd : FuncData} (F : Fun K x qual st f fd) (e : cdB K f c = true) : fd.code = .ref c := by
  obtain ⟨oc, od, kV, doc, pm, an, cdv, ct, osl, h, lk, _⟩ := F.ex
  exact cdB_ok e lk
def tabB (K K2 : PySem.W.Frag) (p : Addr × Addr) : Bool := PySem.W.codeHdIn K p.1 p.2 && ((K.lookup p.2).isNone && emB K2 p.2)
abbrev FsT : Type := PySem.W.Frag → List Addr → List (Addr × Addr)
/-- cs: the code objects with their tables, by place -/
def tabsB (cs : List (Nat × Nat)) (K K2 : PySem.W.Frag) (A A2 : List Addr) : Bool := cs.all fun n => tabB K K2 (A.getD n.1 0, A2.getD n.2 0)
def csOf (cs : List (Nat × Nat)) (A A2 : List Addr) : List (Addr × Addr) := cs.map fun n => (A.getD n.1 0, A2.getD n.2 0)
def obsKT (ls ls2 : (Addr → Option Obj) → List Addr) (fs : FsK) (fn : List DefK) (cs : List (Nat × Nat)) (g : Addr → Option Obj) : FnWK × Bool :=
  frList (ls g) fun A => frFr g A fun K => frList (ls2 g) fun A2 => frFr g A2 fun K2 => (obsK fs fn K A, tabsB cs K K2 A A2)
theorem obsKT_is {ls ls2 : (Addr → Option Obj) → List Addr} {fs : FsK} {fn : List DefK} {cs : List (Nat × Nat)} {g : Addr → Option Obj} : obsKT ls ls2 fs fn cs g = (obsK fs fn (He.frG g (ls g)) (ls g), tabsB cs (He.frG g (ls g)) (He.frG g (ls2 g)) (ls g) (ls2 g)) := by
  unfold obsKT
  rw [frList_eq, frFr_eq, frList_eq, frFr_eq]
def hookKT (ls ls2 : (Addr → Option Obj) → List Addr) (fs : FsK) (fn : List DefK) (cs : List (Nat × Nat)) : PySem.W.Hook where
  α := FnWK × Bool
  obs := fun s => obsKT ls ls2 fs fn cs s.heap.get?
  val := fun _ => (valK fn, true)
  says := fun _ h => ∃ (K K2 : PySem.W.Frag) (A A2 : List Addr), K.In h ∧ K2.In h ∧ SaysK fs fn K A ∧ tabsB cs K K2 A A2 = true
  of := fun _ _ e => ⟨_, _, _, _, He.frG_in, He.frG_in, congrArg Prod.fst (obsKT_is.symm.trans e), congrArg Prod.snd (obsKT_is.symm.trans e)⟩
  keeps := fun _ _ _ ⟨K, K2, A, A2, hK, hK2, c, d⟩ k => ⟨K, K2, A, A2, PySem.W.Frag.In.keeps hK k, PySem.W.Frag.In.keeps hK2 k, c, d⟩
theorem obsKT_eq {ls ls2 : (Addr → Option Obj) → List Addr} {fs : FsK} {fn : List DefK} {cs : List (Nat × Nat)} {g : Addr → Option Obj} {s : Shared} (h : ∀ a, g a = s.heap.get? a) : obsKT ls ls2 fs fn cs g = (hookKT ls ls2 fs fn cs).obs s := by
  have e : g = s.heap.get? := funext h
  rw [e] <;> rfl
theorem walk_ofWT {l : PySem.W.OpenLaw} {n k : Nat} {q : Program} {loose : List Str} {XP : (Str → Option Value) → Heap → Prop} {YP : World → Heap → Prop} {d : DefRec} {CX : World → CXT} {x : Str} (hn : l.most = some n) (hn2 : n ≤ sizeLine) (hdf : d.params.defaults = []) (hr : Room k callerA)
    (F : ∀ (w : World) (mg : Str → Option Value) (fa : Addr) (h : Heap), YP w h → h.Ns mainGlobals mg → mg d.name = some (.ref fa) →
      ∃ (K K2 : PySem.W.Frag) (fd : FuncData) (cs : List (Addr × Addr)) (sp : Sp), K.In h ∧ K2.In h ∧ (∀ p ∈ cs, tabB K K2 p = true) ∧ (∀ (s : Shared) (u : Value), BindsTo s fd ⟨[u], []⟩ [(x, u)]) ∧
        (∀ (H : Hp) (a : Addr) (ns : List Int), ns.length ≤ n → (∀ p ∈ cs, H p.2 = some (.tbl #[])) → SqL K H a (ns.map V.int) → sp [.ref a] H (fun v _ => v = .bl true) fun _ _ _ => False) ∧
        ∀ base : Heap, K.In base → base.Ns mainGlobals mg → (∀ p ∈ cs, TabB base mg p.1 p.2) → FnOk l.prog w K mg base (CX w) k fa fd [x] sp)
    (hCX : ∀ (w : World) (H : Hp) (s : Shared) (e : Value) (s' : Shared), CX w [] H s (fun _ _ _ => False) e s' → False) : PySem.W.WalkO q loose XP YP l.row.toRowW d [] (fun f vs => PySem.call f vs) := by
  refine Att.attach_call hn hdf fun w s₀ s₁ mg mb fa o pm cd doc a vs ns G Y ho hd hcd hmg hobj hints hlen hg => ?_
  obtain ⟨K, K2, fd, cs, sp, KX, KX2, hcs, hb, hsp, hF⟩ := F w mg fa _ Y G.T.g hmg
  have h1 : ∀ p ∈ cs, PySem.W.codeHdIn K p.1 p.2 = true ∧ K.lookup p.2 = none ∧ emB K2 p.2 = true := fun p hp => by
    have := hcs p hp
    unfold tabB at this
    obtain ⟨a, b⟩ := He.ba this
    obtain ⟨b, c⟩ := He.ba b
    exact ⟨a, Option.isNone_iff_eq_none.mp b, c⟩
  exact law_callTs KX G.T.g G.T.b G.T.builtins G.T.nolimit hg (fun p hp => emB_ok KX2 (h1 p hp).2.2) (fun p hp => (h1 p hp).2.1) (fun p hp => PySem.W.codeHd_of_K KX (h1 p hp).1) G.T.bmain hobj hints (Nat.le_trans hlen hn2) hr hF hb (fun H hH hS => hsp H a ns hlen hH hS) fun H e s' => hCX w H s₁ e s'
section
variable {P : Program} {w : World} {K : PySem.W.Frag} {mg : Str → Option Value} {base : Heap} {σ : L2.St} {H : Hp} {Q : VK} {te : TE} {ta : TA} {k : Nat} {m : Str} {a f : Addr} {v : V}
theorem x_fc {E : L2.St → XK} (h : te σ H (fcK P w K mg base k m (E σ) σ ta Q)) : tFC P w K mg base k m E te ta σ H Q := h
theorem x_fcK {E : XK} {C dx : Addr} {fs : List (Str × V)} {sp : Sp} {fd : FuncData} (ho : H a = some (.ins C dx fs)) (hl : fs.lookup m = some (.ref f)) (ok : LamOk P w K mg base k f sp) (hp : H f = some (PinO f (fnO fd))) (hc : Cls K C) (hn : NoAttr K C m)
    (h : ta σ H fun vs H2 => H2 f = some (PinO f (fnO fd)) ∧ (∃ v, vs = [v]) ∧ sp vs H2 Q E) : fcK P w K mg base k m E σ ta Q (.ref a) H := ⟨a, C, dx, fs, f, sp, fd, rfl, ho, hc, hn, hl, ok, hp, h⟩
theorem x_seqC {t u : TSC} {D : EndsC} (h : t { D with nx := u D } σ H) : tSeqC t u D σ H := h
theorem x_ifC {c : TT} {t u : TSC} {D : EndsC} (h : c σ H fun b H1 => if b = true then t D σ H1 else u D σ H1) : tIfC c t u D σ H := h
theorem x_retC {D : EndsC} (h : te σ H fun v H' => D.rt v σ H') : tRetC te D σ H := h
theorem x_oldC {t : TS} {D : EndsC} (h : t { nx := D.nx, rt := fun v H' => ∀ σ', D.rt v σ' H' } σ H) : tOldC t D σ H := h
theorem x_nilC {D : EndsC} (h : D.nx σ H) : tNilC D σ H := h
/-- a lambda's one captured name -/
theorem clo_one {cells : List (Str × Addr)} {y : Str} {c : Addr} (h : cells.lookup y = some c) : [(y, (cells.lookup y).getD 0)] = capL (some (y, c, v)) := by
  rw [h]
  rfl
end
end Kit

namespace My
open PySem L2 Kit

def top (i : Nat) : Stmt := PySem.Challenge.pw_wornpages_k61_pages_laid_by_hand.main.body.getD i (.Pass ⟨0, 0, 0, 0⟩)
abbrev s_mark_of : Stmt := top 3
abbrev N_mark_of : List Str := ["stamp", "name"]
theorem sc_mark_of : FnScope N_mark_of ["stamp", "name"] (defScope s_mark_of) := ⟨rfl, rfl, rfl, by decide +kernel, rfl, by decide +kernel, by decide +kernel⟩
abbrev s_stamp_of : Stmt := top 4
abbrev N_stamp_of : List Str := ["mark"]
theorem sc_stamp_of : FnScope N_stamp_of ["mark"] (defScope s_stamp_of) := ⟨rfl, rfl, rfl, by decide +kernel, rfl, by decide +kernel, by decide +kernel⟩
abbrev s_name_of : Stmt := top 5
abbrev N_name_of : List Str := ["mark"]
theorem sc_name_of : FnScope N_name_of ["mark"] (defScope s_name_of) := ⟨rfl, rfl, rfl, by decide +kernel, rfl, by decide +kernel, by decide +kernel⟩
abbrev s_sheets_of : Stmt := top 6
abbrev N_sheets_of : List Str := ["bits", "found", "sheet"]
theorem sc_sheets_of : FnScope N_sheets_of ["bits"] (defScope s_sheets_of) := ⟨rfl, rfl, rfl, by decide +kernel, rfl, by decide +kernel, by decide +kernel⟩
abbrev s_Book_init : Stmt := inClass (top 8) 0
abbrev N_Book_init : List Str := ["self", "blocks", "pages"]
theorem sc_Book_init : FnScope N_Book_init ["self", "blocks", "pages"] (defScope s_Book_init) := ⟨rfl, rfl, rfl, by decide +kernel, rfl, by decide +kernel, by decide +kernel⟩
abbrev s_Book_start_at : Stmt := inClass (top 8) 1
abbrev N_Book_start_at : List Str := ["self", "stamp"]
theorem sc_Book_start_at : FnScope N_Book_start_at ["self", "stamp"] (defScope s_Book_start_at) := ⟨rfl, rfl, rfl, by decide +kernel, rfl, by decide +kernel, by decide +kernel⟩
abbrev s_Book_mark : Stmt := inClass (top 8) 2
abbrev N_Book_mark : List Str := ["self", "name"]
theorem sc_Book_mark : FnScope N_Book_mark ["self", "name"] (defScope s_Book_mark) := ⟨rfl, rfl, rfl, by decide +kernel, rfl, by decide +kernel, by decide +kernel⟩
abbrev s_Book_note : Stmt := inClass (top 8) 3
abbrev N_Book_note : List Str := ["self", "page", "name", "block"]
theorem sc_Book_note : FnScope N_Book_note ["self", "page", "name"] (defScope s_Book_note) := ⟨rfl, rfl, rfl, by decide +kernel, rfl, by decide +kernel, by decide +kernel⟩
abbrev s_Book_forget : Stmt := inClass (top 8) 4
abbrev N_Book_forget : List Str := ["self", "name", "page"]
theorem sc_Book_forget : FnScope N_Book_forget ["self", "name"] (defScope s_Book_forget) := ⟨rfl, rfl, rfl, by decide +kernel, rfl, by decide +kernel, by decide +kernel⟩
abbrev s_Book_held : Stmt := inClass (top 8) 7
abbrev N_Book_held : List Str := ["self", "name"]
theorem sc_Book_held : FnScope N_Book_held ["self"] (defScope s_Book_held) := ⟨rfl, rfl, rfl, by decide +kernel, rfl, by decide +kernel, by decide +kernel⟩
abbrev s_Book_tell : Stmt := inClass (top 8) 8
abbrev N_Book_tell : List Str := ["self"]
theorem sc_Book_tell : FnScope N_Book_tell ["self"] (defScope s_Book_tell) := ⟨rfl, rfl, rfl, by decide +kernel, rfl, by decide +kernel, by decide +kernel⟩
abbrev s_BlockFailed_init : Stmt := inClass (top 14) 0
abbrev N_BlockFailed_init : List Str := ["self", "block"]
theorem sc_BlockFailed_init : FnScope N_BlockFailed_init ["self", "block"] (defScope s_BlockFailed_init) := ⟨rfl, rfl, rfl, by decide +kernel, rfl, by decide +kernel, by decide +kernel⟩
abbrev s_NotClear_init : Stmt := inClass (top 15) 0
abbrev N_NotClear_init : List Str := ["self", "page"]
theorem sc_NotClear_init : FnScope N_NotClear_init ["self", "page"] (defScope s_NotClear_init) := ⟨rfl, rfl, rfl, by decide +kernel, rfl, by decide +kernel, by decide +kernel⟩
abbrev s_is_whole : Stmt := top 17
abbrev N_is_whole : List Str := ["thing"]
theorem sc_is_whole : FnScope N_is_whole ["thing"] (defScope s_is_whole) := ⟨rfl, rfl, rfl, by decide +kernel, rfl, by decide +kernel, by decide +kernel⟩
abbrev s_is_within : Stmt := top 18
abbrev N_is_within : List Str := ["thing", "low", "high"]
theorem sc_is_within : FnScope N_is_within ["thing", "low", "high"] (defScope s_is_within) := ⟨rfl, rfl, rfl, by decide +kernel, rfl, by decide +kernel, by decide +kernel⟩
abbrev s_rows_by_stamp : Stmt := top 20
abbrev N_rows_by_stamp : List Str := ["chip", "found", "page", "stuff"]
theorem sc_rows_by_stamp : FnScope N_rows_by_stamp ["chip"] (defScope s_rows_by_stamp) := ⟨rfl, rfl, rfl, by decide +kernel, rfl, by decide +kernel, by decide +kernel⟩
abbrev s_stamp_of_roll : Stmt := top 21
abbrev N_stamp_of_roll : List Str := ["rows", "newest", "stamp", "page", "name", "value"]
theorem sc_stamp_of_roll : FnScope N_stamp_of_roll ["rows"] (defScope s_stamp_of_roll) := ⟨rfl, rfl, rfl, by decide +kernel, rfl, by decide +kernel, by decide +kernel⟩
abbrev s_book_of : Stmt := top 22
abbrev N_book_of : List Str := ["chip", "book", "rows", "newest", "stamp", "page", "name", "value", "kept", "sheet"]
theorem sc_book_of : FnScope N_book_of ["chip"] (defScope s_book_of) := ⟨rfl, rfl, rfl, by decide +kernel, rfl, by decide +kernel, by decide +kernel⟩
abbrev s_endurance : Stmt := top 26
abbrev N_endurance : List Str := ["blocks", "ills", "found", "block", "good"]
theorem sc_endurance : FnScope N_endurance ["blocks", "ills"] (defScope s_endurance) := ⟨rfl, rfl, rfl, by decide +kernel, rfl, by decide +kernel, by decide +kernel⟩
abbrev s_Chip_init : Stmt := inClass (top 27) 0
abbrev N_Chip_init : List Str := ["self", "blocks", "pages", "most", "ills"]
abbrev dfl_Chip_init : List V := [V.int (1000000), V.non]
theorem sc_Chip_init : FnScope N_Chip_init ["self", "blocks", "pages", "most", "ills"] (defScope s_Chip_init) := ⟨rfl, rfl, rfl, by decide +kernel, rfl, by decide +kernel, by decide +kernel⟩
abbrev s_Chip_need_page : Stmt := inClass (top 27) 1
abbrev N_Chip_need_page : List Str := ["self", "page"]
theorem sc_Chip_need_page : FnScope N_Chip_need_page ["self", "page"] (defScope s_Chip_need_page) := ⟨rfl, rfl, rfl, by decide +kernel, rfl, by decide +kernel, by decide +kernel⟩
abbrev s_Chip_need_block : Stmt := inClass (top 27) 2
abbrev N_Chip_need_block : List Str := ["self", "block"]
theorem sc_Chip_need_block : FnScope N_Chip_need_block ["self", "block"] (defScope s_Chip_need_block) := ⟨rfl, rfl, rfl, by decide +kernel, rfl, by decide +kernel, by decide +kernel⟩
abbrev s_Chip_need_power : Stmt := inClass (top 27) 3
abbrev N_Chip_need_power : List Str := ["self"]
theorem sc_Chip_need_power : FnScope N_Chip_need_power ["self"] (defScope s_Chip_need_power) := ⟨rfl, rfl, rfl, by decide +kernel, rfl, by decide +kernel, by decide +kernel⟩
abbrev s_Chip_need_good : Stmt := inClass (top 27) 4
abbrev N_Chip_need_good : List Str := ["self", "block"]
theorem sc_Chip_need_good : FnScope N_Chip_need_good ["self", "block"] (defScope s_Chip_need_good) := ⟨rfl, rfl, rfl, by decide +kernel, rfl, by decide +kernel, by decide +kernel⟩
abbrev s_Chip_goes_well : Stmt := inClass (top 27) 5
abbrev N_Chip_goes_well : List Str := ["self", "block", "worn", "well"]
theorem sc_Chip_goes_well : FnScope N_Chip_goes_well ["self", "block", "worn"] (defScope s_Chip_goes_well) := ⟨rfl, rfl, rfl, by decide +kernel, rfl, by decide +kernel, by decide +kernel⟩
abbrev s_Chip_put : Stmt := inClass (top 27) 6
abbrev N_Chip_put : List Str := ["self", "page", "stuff", "block", "well"]
theorem sc_Chip_put : FnScope N_Chip_put ["self", "page", "stuff"] (defScope s_Chip_put) := ⟨rfl, rfl, rfl, by decide +kernel, rfl, by decide +kernel, by decide +kernel⟩
abbrev s_Chip_read : Stmt := inClass (top 27) 8
abbrev N_Chip_read : List Str := ["self", "page"]
theorem sc_Chip_read : FnScope N_Chip_read ["self", "page"] (defScope s_Chip_read) := ⟨rfl, rfl, rfl, by decide +kernel, rfl, by decide +kernel, by decide +kernel⟩
abbrev s_Chip_is_dark : Stmt := inClass (top 27) 11
abbrev N_Chip_is_dark : List Str := ["self"]
theorem sc_Chip_is_dark : FnScope N_Chip_is_dark ["self"] (defScope s_Chip_is_dark) := ⟨rfl, rfl, rfl, by decide +kernel, rfl, by decide +kernel, by decide +kernel⟩
abbrev s_Chip_failed : Stmt := inClass (top 27) 13
abbrev N_Chip_failed : List Str := ["self", "block"]
theorem sc_Chip_failed : FnScope N_Chip_failed ["self", "block"] (defScope s_Chip_failed) := ⟨rfl, rfl, rfl, by decide +kernel, rfl, by decide +kernel, by decide +kernel⟩
abbrev s_Chip_deeds : Stmt := inClass (top 27) 14
abbrev N_Chip_deeds : List Str := ["self"]
theorem sc_Chip_deeds : FnScope N_Chip_deeds ["self"] (defScope s_Chip_deeds) := ⟨rfl, rfl, rfl, by decide +kernel, rfl, by decide +kernel, by decide +kernel⟩
abbrev s__law_cell_at : Stmt := top 29
abbrev N__law_cell_at : List Str := ["_law_script", "_law_k"]
theorem sc__law_cell_at : FnScope N__law_cell_at ["_law_script", "_law_k"] (defScope s__law_cell_at) := ⟨rfl, rfl, rfl, by decide +kernel, rfl, by decide +kernel, by decide +kernel⟩
abbrev s__law_whole : Stmt := top 30
abbrev N__law_whole : List Str := ["_law_found"]
theorem sc__law_whole : FnScope N__law_whole ["_law_found"] (defScope s__law_whole) := ⟨rfl, rfl, rfl, by decide +kernel, rfl, by decide +kernel, by decide +kernel⟩
abbrev s__law_mix : Stmt := top 31
abbrev N__law_mix : List Str := ["_law_cell", "_law_k", "_law_m"]
theorem sc__law_mix : FnScope N__law_mix ["_law_cell", "_law_k"] (defScope s__law_mix) := ⟨rfl, rfl, rfl, by decide +kernel, rfl, by decide +kernel, by decide +kernel⟩
abbrev s__law_numbers : Stmt := top 32
abbrev N__law_numbers : List Str := ["_law_found", "_law_due_here", "_law_thing", "_law_number"]
theorem sc__law_numbers : FnScope N__law_numbers ["_law_found", "_law_due_here"] (defScope s__law_numbers) := ⟨rfl, rfl, rfl, by decide +kernel, rfl, by decide +kernel, by decide +kernel⟩
abbrev s__law_pairs : Stmt := top 33
abbrev N__law_pairs : List Str := ["_law_found", "_law_due_here", "_law_thing", "_law_pair"]
theorem sc__law_pairs : FnScope N__law_pairs ["_law_found", "_law_due_here"] (defScope s__law_pairs) := ⟨rfl, rfl, rfl, by decide +kernel, rfl, by decide +kernel, by decide +kernel⟩
abbrev s__law_told : Stmt := top 34
abbrev N__law_told : List Str := ["_law_found", "_law_due_here", "_law_k"]
theorem sc__law_told : FnScope N__law_told ["_law_found", "_law_due_here"] (defScope s__law_told) := ⟨rfl, rfl, rfl, by decide +kernel, rfl, by decide +kernel, by decide +kernel⟩
abbrev s__law_due : Stmt := top 35
abbrev N__law_due : List Str := ["_law_rows", "_law_blocks", "_law_pages", "_law_newest", "_law_filled", "_law_born", "_law_last", "_law_stamp", "_law_page", "_law_name", "_law_live"]
theorem sc__law_due : FnScope N__law_due ["_law_rows", "_law_blocks", "_law_pages"] (defScope s__law_due) := ⟨rfl, rfl, rfl, by decide +kernel, rfl, by decide +kernel, by decide +kernel⟩
abbrev s__law_laid : Stmt := top 36
abbrev N__law_laid : List Str := ["_law_chip", "_law_script", "_law_pages", "_law_filled", "_law_rows", "_law_stamp", "_law_apart", "_law_k", "_law_block", "_law_name", "_law_page"]
theorem sc__law_laid : FnScope N__law_laid ["_law_chip", "_law_script", "_law_pages", "_law_filled"] (defScope s__law_laid) := ⟨rfl, rfl, rfl, by decide +kernel, rfl, by decide +kernel, by decide +kernel⟩
abbrev s_law : Stmt := top 37
abbrev N_law : List Str := ["_law_script", "_law_blocks", "_law_pages", "_law_sick", "_law_chip", "_law_filled", "_law_rows", "_law_due_here", "_law_found", "_law_page"]
theorem sc_law : FnScope N_law ["_law_script"] (defScope s_law) := ⟨rfl, rfl, rfl, by decide +kernel, rfl, by decide +kernel, by decide +kernel⟩
def fsK0 (K : PySem.W.Frag) (A : List Addr) : Bool := decide (PySem.W.nsIn K mainGlobals "mark_of" = some (some (.ref (A.getD 18 0)))) && (decide (PySem.W.nsIn K mainGlobals "stamp_of" = some (some (.ref (A.getD 19 0)))) && (decide (PySem.W.nsIn K mainGlobals "name_of" = some (some (.ref (A.getD 20 0)))) && (decide (PySem.W.nsIn K mainGlobals "sheets_of" = some (some (.ref (A.getD 21 0)))) && (decide (PySem.W.nsIn K mainGlobals "is_whole" = some (some (.ref (A.getD 31 0)))) && (decide (PySem.W.nsIn K mainGlobals "is_within" = some (some (.ref (A.getD 32 0)))) && (decide (PySem.W.nsIn K mainGlobals "rows_by_stamp" = some (some (.ref (A.getD 33 0)))) && (decide (PySem.W.nsIn K mainGlobals "stamp_of_roll" = some (some (.ref (A.getD 34 0)))) && (decide (PySem.W.nsIn K mainGlobals "book_of" = some (some (.ref (A.getD 35 0)))) && (decide (PySem.W.nsIn K mainGlobals "endurance" = some (some (.ref (A.getD 36 0)))) && (decide (PySem.W.nsIn K mainGlobals "_law_cell_at" = some (some (.ref (A.getD 48 0)))) && (decide (PySem.W.nsIn K mainGlobals "_law_whole" = some (some (.ref (A.getD 49 0)))) && (decide (PySem.W.nsIn K mainGlobals "_law_mix" = some (some (.ref (A.getD 50 0)))) && (decide (PySem.W.nsIn K mainGlobals "_law_numbers" = some (some (.ref (A.getD 51 0)))) && (decide (PySem.W.nsIn K mainGlobals "_law_pairs" = some (some (.ref (A.getD 52 0)))) && (decide (PySem.W.nsIn K mainGlobals "_law_told" = some (some (.ref (A.getD 53 0)))) && (decide (PySem.W.nsIn K mainGlobals "_law_due" = some (some (.ref (A.getD 54 0)))) && (decide (PySem.W.nsIn K mainGlobals "_law_laid" = some (some (.ref (A.getD 55 0)))) && (decide (PySem.W.nsIn K mainGlobals "law" = some (some (.ref (A.getD 56 0)))) && (decide (PySem.W.nsIn K mainGlobals "Book" = some (some (.ref (A.getD 2 0)))) && (PySem.W.plainGet K (A.getD 2 0) Str.empty && (PySem.W.hasDictIn K (A.getD 2 0) && (PySem.W.plainOver K (A.getD 2 0) && (decide (PySem.W.findIn K (.ref (A.getD 2 0)) "__setattr__" = some (some (.builtin "object.__setattr__"))) && (decide (PySem.W.findIn K (.ref (A.getD 2 0)) "blocks" = some none)))))))))))))))))))))))))
theorem fsK0_ok {K : PySem.W.Frag} {A : List Addr} (h : fsK0 K A = true) : (PySem.W.nsIn K mainGlobals "mark_of" = some (some (.ref (A.getD 18 0)))) ∧ (PySem.W.nsIn K mainGlobals "stamp_of" = some (some (.ref (A.getD 19 0)))) ∧ (PySem.W.nsIn K mainGlobals "name_of" = some (some (.ref (A.getD 20 0)))) ∧ (PySem.W.nsIn K mainGlobals "sheets_of" = some (some (.ref (A.getD 21 0)))) ∧ (PySem.W.nsIn K mainGlobals "is_whole" = some (some (.ref (A.getD 31 0)))) ∧ (PySem.W.nsIn K mainGlobals "is_within" = some (some (.ref (A.getD 32 0)))) ∧ (PySem.W.nsIn K mainGlobals "rows_by_stamp" = some (some (.ref (A.getD 33 0)))) ∧ (PySem.W.nsIn K mainGlobals "stamp_of_roll" = some (some (.ref (A.getD 34 0)))) ∧ (PySem.W.nsIn K mainGlobals "book_of" = some (some (.ref (A.getD 35 0)))) ∧ (PySem.W.nsIn K mainGlobals "endurance" = some (some (.ref (A.getD 36 0)))) ∧ (PySem.W.nsIn K mainGlobals "_law_cell_at" = some (some (.ref (A.getD 48 0)))) ∧ (PySem.W.nsIn K mainGlobals "_law_whole" = some (some (.ref (A.getD 49 0)))) ∧ (PySem.W.nsIn K mainGlobals "_law_mix" = some (some (.ref (A.getD 50 0)))) ∧ (PySem.W.nsIn K mainGlobals "_law_numbers" = some (some (.ref (A.getD 51 0)))) ∧ (PySem.W.nsIn K mainGlobals "_law_pairs" = some (some (.ref (A.getD 52 0)))) ∧ (PySem.W.nsIn K mainGlobals "_law_told" = some (some (.ref (A.getD 53 0)))) ∧ (PySem.W.nsIn K mainGlobals "_law_due" = some (some (.ref (A.getD 54 0)))) ∧ (PySem.W.nsIn K mainGlobals "_law_laid" = some (some (.ref (A.getD 55 0)))) ∧ (PySem.W.nsIn K mainGlobals "law" = some (some (.ref (A.getD 56 0)))) ∧ (PySem.W.nsIn K mainGlobals "Book" = some (some (.ref (A.getD 2 0)))) ∧ (PySem.W.plainGet K (A.getD 2 0) Str.empty = true) ∧ (PySem.W.hasDictIn K (A.getD 2 0) = true) ∧ (PySem.W.plainOver K (A.getD 2 0) = true) ∧ (PySem.W.findIn K (.ref (A.getD 2 0)) "__setattr__" = some (some (.builtin "object.__setattr__"))) ∧ (PySem.W.findIn K (.ref (A.getD 2 0)) "blocks" = some none) := by
  unfold fsK0 at h
  obtain ⟨h0, h⟩ := He.ba h
  obtain ⟨h1, h⟩ := He.ba h
  obtain ⟨h2, h⟩ := He.ba h
  obtain ⟨h3, h⟩ := He.ba h
  obtain ⟨h4, h⟩ := He.ba h
  obtain ⟨h5, h⟩ := He.ba h
  obtain ⟨h6, h⟩ := He.ba h
  obtain ⟨h7, h⟩ := He.ba h
  obtain ⟨h8, h⟩ := He.ba h
  obtain ⟨h9, h⟩ := He.ba h
  obtain ⟨h10, h⟩ := He.ba h
  obtain ⟨h11, h⟩ := He.ba h
  obtain ⟨h12, h⟩ := He.ba h
  obtain ⟨h13, h⟩ := He.ba h
  obtain ⟨h14, h⟩ := He.ba h
  obtain ⟨h15, h⟩ := He.ba h
  obtain ⟨h16, h⟩ := He.ba h
  obtain ⟨h17, h⟩ := He.ba h
  obtain ⟨h18, h⟩ := He.ba h
  obtain ⟨h19, h⟩ := He.ba h
  obtain ⟨h20, h⟩ := He.ba h
  obtain ⟨h21, h⟩ := He.ba h
  obtain ⟨h22, h⟩ := He.ba h
  obtain ⟨h23, h⟩ := He.ba h
  exact ⟨of_decide_eq_true h0, of_decide_eq_true h1, of_decide_eq_true h2, of_decide_eq_true h3, of_decide_eq_true h4, of_decide_eq_true h5, of_decide_eq_true h6, of_decide_eq_true h7, of_decide_eq_true h8, of_decide_eq_true h9, of_decide_eq_true h10, of_decide_eq_true h11, of_decide_eq_true h12, of_decide_eq_true h13, of_decide_eq_true h14, of_decide_eq_true h15, of_decide_eq_true h16, of_decide_eq_true h17, of_decide_eq_true h18, of_decide_eq_true h19, h20, h21, h22, of_decide_eq_true h23, of_decide_eq_true h⟩
def fsK1 (K : PySem.W.Frag) (A : List Addr) : Bool := decide (PySem.W.findIn K (.ref (A.getD 2 0)) "pages" = some none) && (decide (PySem.W.findIn K (.ref (A.getD 2 0)) "where" = some none) && (decide (PySem.W.findIn K (.ref (A.getD 2 0)) "names" = some none) && (decide (PySem.W.findIn K (.ref (A.getD 2 0)) "live" = some none) && (decide (PySem.W.findIn K (.ref (A.getD 2 0)) "filled" = some none) && (decide (PySem.W.findIn K (.ref (A.getD 2 0)) "born" = some none) && (decide (PySem.W.findIn K (.ref (A.getD 2 0)) "stamp" = some none) && (decide (PySem.W.findIn K (.ref (A.getD 2 0)) "__init__" = some (some (.ref (A.getD 22 0)))) && (PySem.W.isFn K (.ref (A.getD 22 0)) && (PySem.W.makesIn K (A.getD 2 0) && (PySem.W.keepIn K (.ref (A.getD 2 0)) && (decide (PySem.W.findIn K (.ref (A.getD 2 0)) "start_at" = some (some (.ref (A.getD 23 0)))) && (PySem.W.isFn K (.ref (A.getD 23 0)) && (decide (PySem.W.findIn K (.ref (A.getD 2 0)) "mark" = some (some (.ref (A.getD 24 0)))) && (PySem.W.isFn K (.ref (A.getD 24 0)) && (decide (PySem.W.findIn K (.ref (A.getD 2 0)) "note" = some (some (.ref (A.getD 25 0)))) && (PySem.W.isFn K (.ref (A.getD 25 0)) && (decide (PySem.W.findIn K (.ref (A.getD 2 0)) "forget" = some (some (.ref (A.getD 26 0)))) && (PySem.W.isFn K (.ref (A.getD 26 0)) && (decide (PySem.W.findIn K (.ref (A.getD 2 0)) "held" = some (some (.ref (A.getD 27 0)))) && (PySem.W.isFn K (.ref (A.getD 27 0)) && (decide (PySem.W.findIn K (.ref (A.getD 2 0)) "tell" = some (some (.ref (A.getD 28 0)))) && (PySem.W.isFn K (.ref (A.getD 28 0)) && (decide (PySem.W.nsIn K mainGlobals "Chip" = some (some (.ref (A.getD 3 0)))) && (PySem.W.plainGet K (A.getD 3 0) Str.empty))))))))))))))))))))))))
theorem fsK1_ok {K : PySem.W.Frag} {A : List Addr} (h : fsK1 K A = true) : (PySem.W.findIn K (.ref (A.getD 2 0)) "pages" = some none) ∧ (PySem.W.findIn K (.ref (A.getD 2 0)) "where" = some none) ∧ (PySem.W.findIn K (.ref (A.getD 2 0)) "names" = some none) ∧ (PySem.W.findIn K (.ref (A.getD 2 0)) "live" = some none) ∧ (PySem.W.findIn K (.ref (A.getD 2 0)) "filled" = some none) ∧ (PySem.W.findIn K (.ref (A.getD 2 0)) "born" = some none) ∧ (PySem.W.findIn K (.ref (A.getD 2 0)) "stamp" = some none) ∧ (PySem.W.findIn K (.ref (A.getD 2 0)) "__init__" = some (some (.ref (A.getD 22 0)))) ∧ (PySem.W.isFn K (.ref (A.getD 22 0)) = true) ∧ (PySem.W.makesIn K (A.getD 2 0) = true) ∧ (PySem.W.keepIn K (.ref (A.getD 2 0)) = true) ∧ (PySem.W.findIn K (.ref (A.getD 2 0)) "start_at" = some (some (.ref (A.getD 23 0)))) ∧ (PySem.W.isFn K (.ref (A.getD 23 0)) = true) ∧ (PySem.W.findIn K (.ref (A.getD 2 0)) "mark" = some (some (.ref (A.getD 24 0)))) ∧ (PySem.W.isFn K (.ref (A.getD 24 0)) = true) ∧ (PySem.W.findIn K (.ref (A.getD 2 0)) "note" = some (some (.ref (A.getD 25 0)))) ∧ (PySem.W.isFn K (.ref (A.getD 25 0)) = true) ∧ (PySem.W.findIn K (.ref (A.getD 2 0)) "forget" = some (some (.ref (A.getD 26 0)))) ∧ (PySem.W.isFn K (.ref (A.getD 26 0)) = true) ∧ (PySem.W.findIn K (.ref (A.getD 2 0)) "held" = some (some (.ref (A.getD 27 0)))) ∧ (PySem.W.isFn K (.ref (A.getD 27 0)) = true) ∧ (PySem.W.findIn K (.ref (A.getD 2 0)) "tell" = some (some (.ref (A.getD 28 0)))) ∧ (PySem.W.isFn K (.ref (A.getD 28 0)) = true) ∧ (PySem.W.nsIn K mainGlobals "Chip" = some (some (.ref (A.getD 3 0)))) ∧ (PySem.W.plainGet K (A.getD 3 0) Str.empty = true) := by
  unfold fsK1 at h
  obtain ⟨h0, h⟩ := He.ba h
  obtain ⟨h1, h⟩ := He.ba h
  obtain ⟨h2, h⟩ := He.ba h
  obtain ⟨h3, h⟩ := He.ba h
  obtain ⟨h4, h⟩ := He.ba h
  obtain ⟨h5, h⟩ := He.ba h
  obtain ⟨h6, h⟩ := He.ba h
  obtain ⟨h7, h⟩ := He.ba h
  obtain ⟨h8, h⟩ := He.ba h
  obtain ⟨h9, h⟩ := He.ba h
  obtain ⟨h10, h⟩ := He.ba h
  obtain ⟨h11, h⟩ := He.ba h
  obtain ⟨h12, h⟩ := He.ba h
  obtain ⟨h13, h⟩ := He.ba h
  obtain ⟨h14, h⟩ := He.ba h
  obtain ⟨h15, h⟩ := He.ba h
  obtain ⟨h16, h⟩ := He.ba h
  obtain ⟨h17, h⟩ := He.ba h
  obtain ⟨h18, h⟩ := He.ba h
  obtain ⟨h19, h⟩ := He.ba h
  obtain ⟨h20, h⟩ := He.ba h
  obtain ⟨h21, h⟩ := He.ba h
  obtain ⟨h22, h⟩ := He.ba h
  obtain ⟨h23, h⟩ := He.ba h
  exact ⟨of_decide_eq_true h0, of_decide_eq_true h1, of_decide_eq_true h2, of_decide_eq_true h3, of_decide_eq_true h4, of_decide_eq_true h5, of_decide_eq_true h6, of_decide_eq_true h7, h8, h9, h10, of_decide_eq_true h11, h12, of_decide_eq_true h13, h14, of_decide_eq_true h15, h16, of_decide_eq_true h17, h18, of_decide_eq_true h19, h20, of_decide_eq_true h21, h22, of_decide_eq_true h23, h⟩
def fsK2 (K : PySem.W.Frag) (A : List Addr) : Bool := PySem.W.hasDictIn K (A.getD 3 0) && (PySem.W.plainOver K (A.getD 3 0) && (decide (PySem.W.findIn K (.ref (A.getD 3 0)) "__setattr__" = some (some (.builtin "object.__setattr__"))) && (decide (PySem.W.findIn K (.ref (A.getD 3 0)) "blocks" = some none) && (decide (PySem.W.findIn K (.ref (A.getD 3 0)) "pages" = some none) && (decide (PySem.W.findIn K (.ref (A.getD 3 0)) "most" = some none) && (decide (PySem.W.findIn K (.ref (A.getD 3 0)) "lasts" = some none) && (decide (PySem.W.findIn K (.ref (A.getD 3 0)) "stuff" = some none) && (decide (PySem.W.findIn K (.ref (A.getD 3 0)) "tried" = some none) && (decide (PySem.W.findIn K (.ref (A.getD 3 0)) "clearings" = some none) && (decide (PySem.W.findIn K (.ref (A.getD 3 0)) "broken" = some none) && (decide (PySem.W.findIn K (.ref (A.getD 3 0)) "left" = some none) && (decide (PySem.W.findIn K (.ref (A.getD 3 0)) "log" = some none) && (decide (PySem.W.findIn K (.ref (A.getD 3 0)) "__init__" = some (some (.ref (A.getD 37 0)))) && (PySem.W.isFn K (.ref (A.getD 37 0)) && (PySem.W.makesIn K (A.getD 3 0) && (PySem.W.keepIn K (.ref (A.getD 3 0)) && (decide (PySem.W.findIn K (.ref (A.getD 3 0)) "need_page" = some (some (.ref (A.getD 38 0)))) && (PySem.W.isFn K (.ref (A.getD 38 0)) && (decide (PySem.W.findIn K (.ref (A.getD 3 0)) "need_block" = some (some (.ref (A.getD 39 0)))) && (PySem.W.isFn K (.ref (A.getD 39 0)) && (decide (PySem.W.findIn K (.ref (A.getD 3 0)) "need_power" = some (some (.ref (A.getD 40 0)))) && (PySem.W.isFn K (.ref (A.getD 40 0)) && (decide (PySem.W.findIn K (.ref (A.getD 3 0)) "need_good" = some (some (.ref (A.getD 41 0)))) && (PySem.W.isFn K (.ref (A.getD 41 0))))))))))))))))))))))))))
theorem fsK2_ok {K : PySem.W.Frag} {A : List Addr} (h : fsK2 K A = true) : (PySem.W.hasDictIn K (A.getD 3 0) = true) ∧ (PySem.W.plainOver K (A.getD 3 0) = true) ∧ (PySem.W.findIn K (.ref (A.getD 3 0)) "__setattr__" = some (some (.builtin "object.__setattr__"))) ∧ (PySem.W.findIn K (.ref (A.getD 3 0)) "blocks" = some none) ∧ (PySem.W.findIn K (.ref (A.getD 3 0)) "pages" = some none) ∧ (PySem.W.findIn K (.ref (A.getD 3 0)) "most" = some none) ∧ (PySem.W.findIn K (.ref (A.getD 3 0)) "lasts" = some none) ∧ (PySem.W.findIn K (.ref (A.getD 3 0)) "stuff" = some none) ∧ (PySem.W.findIn K (.ref (A.getD 3 0)) "tried" = some none) ∧ (PySem.W.findIn K (.ref (A.getD 3 0)) "clearings" = some none) ∧ (PySem.W.findIn K (.ref (A.getD 3 0)) "broken" = some none) ∧ (PySem.W.findIn K (.ref (A.getD 3 0)) "left" = some none) ∧ (PySem.W.findIn K (.ref (A.getD 3 0)) "log" = some none) ∧ (PySem.W.findIn K (.ref (A.getD 3 0)) "__init__" = some (some (.ref (A.getD 37 0)))) ∧ (PySem.W.isFn K (.ref (A.getD 37 0)) = true) ∧ (PySem.W.makesIn K (A.getD 3 0) = true) ∧ (PySem.W.keepIn K (.ref (A.getD 3 0)) = true) ∧ (PySem.W.findIn K (.ref (A.getD 3 0)) "need_page" = some (some (.ref (A.getD 38 0)))) ∧ (PySem.W.isFn K (.ref (A.getD 38 0)) = true) ∧ (PySem.W.findIn K (.ref (A.getD 3 0)) "need_block" = some (some (.ref (A.getD 39 0)))) ∧ (PySem.W.isFn K (.ref (A.getD 39 0)) = true) ∧ (PySem.W.findIn K (.ref (A.getD 3 0)) "need_power" = some (some (.ref (A.getD 40 0)))) ∧ (PySem.W.isFn K (.ref (A.getD 40 0)) = true) ∧ (PySem.W.findIn K (.ref (A.getD 3 0)) "need_good" = some (some (.ref (A.getD 41 0)))) ∧ (PySem.W.isFn K (.ref (A.getD 41 0)) = true) := by
  unfold fsK2 at h
  obtain ⟨h0, h⟩ := He.ba h
  obtain ⟨h1, h⟩ := He.ba h
  obtain ⟨h2, h⟩ := He.ba h
  obtain ⟨h3, h⟩ := He.ba h
  obtain ⟨h4, h⟩ := He.ba h
  obtain ⟨h5, h⟩ := He.ba h
  obtain ⟨h6, h⟩ := He.ba h
  obtain ⟨h7, h⟩ := He.ba h
  obtain ⟨h8, h⟩ := He.ba h
  obtain ⟨h9, h⟩ := He.ba h
  obtain ⟨h10, h⟩ := He.ba h
  obtain ⟨h11, h⟩ := He.ba h
  obtain ⟨h12, h⟩ := He.ba h
  obtain ⟨h13, h⟩ := He.ba h
  obtain ⟨h14, h⟩ := He.ba h
  obtain ⟨h15, h⟩ := He.ba h
  obtain ⟨h16, h⟩ := He.ba h
  obtain ⟨h17, h⟩ := He.ba h
  obtain ⟨h18, h⟩ := He.ba h
  obtain ⟨h19, h⟩ := He.ba h
  obtain ⟨h20, h⟩ := He.ba h
  obtain ⟨h21, h⟩ := He.ba h
  obtain ⟨h22, h⟩ := He.ba h
  obtain ⟨h23, h⟩ := He.ba h
  exact ⟨h0, h1, of_decide_eq_true h2, of_decide_eq_true h3, of_decide_eq_true h4, of_decide_eq_true h5, of_decide_eq_true h6, of_decide_eq_true h7, of_decide_eq_true h8, of_decide_eq_true h9, of_decide_eq_true h10, of_decide_eq_true h11, of_decide_eq_true h12, of_decide_eq_true h13, h14, h15, h16, of_decide_eq_true h17, h18, of_decide_eq_true h19, h20, of_decide_eq_true h21, h22, of_decide_eq_true h23, h⟩
def fsK3 (K : PySem.W.Frag) (A : List Addr) : Bool := decide (PySem.W.findIn K (.ref (A.getD 3 0)) "goes_well" = some (some (.ref (A.getD 42 0)))) && (PySem.W.isFn K (.ref (A.getD 42 0)) && (decide (PySem.W.findIn K (.ref (A.getD 3 0)) "put" = some (some (.ref (A.getD 43 0)))) && (PySem.W.isFn K (.ref (A.getD 43 0)) && (decide (PySem.W.findIn K (.ref (A.getD 3 0)) "read" = some (some (.ref (A.getD 44 0)))) && (PySem.W.isFn K (.ref (A.getD 44 0)) && (decide (PySem.W.findIn K (.ref (A.getD 3 0)) "is_dark" = some (some (.ref (A.getD 45 0)))) && (PySem.W.isFn K (.ref (A.getD 45 0)) && (decide (PySem.W.findIn K (.ref (A.getD 3 0)) "failed" = some (some (.ref (A.getD 46 0)))) && (PySem.W.isFn K (.ref (A.getD 46 0)) && (decide (PySem.W.findIn K (.ref (A.getD 3 0)) "deeds" = some (some (.ref (A.getD 47 0)))) && (PySem.W.isFn K (.ref (A.getD 47 0)) && (decide (PySem.W.nsIn K mainGlobals "WornError" = some (some (.ref (A.getD 4 0)))) && (PySem.W.excIn K (A.getD 4 0) [.type "ValueError", .type "Exception", .type "BaseException", .type "object"] "ValueError.__new__" && (PySem.W.keepIn K (.ref (A.getD 4 0)) && (decide (PySem.W.subIn K (.ref (A.getD 4 0)) (.type "BaseException") = some true) && (decide (PySem.W.typeIn K (.ref (A.getD 4 0)) = some (.type "type")) && (decide (PySem.W.nsIn K mainGlobals "NoChip" = some (some (.ref (A.getD 5 0)))) && (PySem.W.excIn K (A.getD 5 0) [.type "ValueError", .type "Exception", .type "BaseException", .type "object"] "ValueError.__new__" && (PySem.W.keepIn K (.ref (A.getD 5 0)) && (decide (PySem.W.subIn K (.ref (A.getD 5 0)) (.type "BaseException") = some true) && (decide (PySem.W.typeIn K (.ref (A.getD 5 0)) = some (.type "type")) && (decide (PySem.W.nsIn K mainGlobals "NoPlace" = some (some (.ref (A.getD 6 0)))) && (PySem.W.excIn K (A.getD 6 0) [.type "ValueError", .type "Exception", .type "BaseException", .type "object"] "ValueError.__new__" && (PySem.W.keepIn K (.ref (A.getD 6 0))))))))))))))))))))))))))
theorem fsK3_ok {K : PySem.W.Frag} {A : List Addr} (h : fsK3 K A = true) : (PySem.W.findIn K (.ref (A.getD 3 0)) "goes_well" = some (some (.ref (A.getD 42 0)))) ∧ (PySem.W.isFn K (.ref (A.getD 42 0)) = true) ∧ (PySem.W.findIn K (.ref (A.getD 3 0)) "put" = some (some (.ref (A.getD 43 0)))) ∧ (PySem.W.isFn K (.ref (A.getD 43 0)) = true) ∧ (PySem.W.findIn K (.ref (A.getD 3 0)) "read" = some (some (.ref (A.getD 44 0)))) ∧ (PySem.W.isFn K (.ref (A.getD 44 0)) = true) ∧ (PySem.W.findIn K (.ref (A.getD 3 0)) "is_dark" = some (some (.ref (A.getD 45 0)))) ∧ (PySem.W.isFn K (.ref (A.getD 45 0)) = true) ∧ (PySem.W.findIn K (.ref (A.getD 3 0)) "failed" = some (some (.ref (A.getD 46 0)))) ∧ (PySem.W.isFn K (.ref (A.getD 46 0)) = true) ∧ (PySem.W.findIn K (.ref (A.getD 3 0)) "deeds" = some (some (.ref (A.getD 47 0)))) ∧ (PySem.W.isFn K (.ref (A.getD 47 0)) = true) ∧ (PySem.W.nsIn K mainGlobals "WornError" = some (some (.ref (A.getD 4 0)))) ∧ (PySem.W.excIn K (A.getD 4 0) [.type "ValueError", .type "Exception", .type "BaseException", .type "object"] "ValueError.__new__" = true) ∧ (PySem.W.keepIn K (.ref (A.getD 4 0)) = true) ∧ (PySem.W.subIn K (.ref (A.getD 4 0)) (.type "BaseException") = some true) ∧ (PySem.W.typeIn K (.ref (A.getD 4 0)) = some (.type "type")) ∧ (PySem.W.nsIn K mainGlobals "NoChip" = some (some (.ref (A.getD 5 0)))) ∧ (PySem.W.excIn K (A.getD 5 0) [.type "ValueError", .type "Exception", .type "BaseException", .type "object"] "ValueError.__new__" = true) ∧ (PySem.W.keepIn K (.ref (A.getD 5 0)) = true) ∧ (PySem.W.subIn K (.ref (A.getD 5 0)) (.type "BaseException") = some true) ∧ (PySem.W.typeIn K (.ref (A.getD 5 0)) = some (.type "type")) ∧ (PySem.W.nsIn K mainGlobals "NoPlace" = some (some (.ref (A.getD 6 0)))) ∧ (PySem.W.excIn K (A.getD 6 0) [.type "ValueError", .type "Exception", .type "BaseException", .type "object"] "ValueError.__new__" = true) ∧ (PySem.W.keepIn K (.ref (A.getD 6 0)) = true) := by
  unfold fsK3 at h
  obtain ⟨h0, h⟩ := He.ba h
  obtain ⟨h1, h⟩ := He.ba h
  obtain ⟨h2, h⟩ := He.ba h
  obtain ⟨h3, h⟩ := He.ba h
  obtain ⟨h4, h⟩ := He.ba h
  obtain ⟨h5, h⟩ := He.ba h
  obtain ⟨h6, h⟩ := He.ba h
  obtain ⟨h7, h⟩ := He.ba h
  obtain ⟨h8, h⟩ := He.ba h
  obtain ⟨h9, h⟩ := He.ba h
  obtain ⟨h10, h⟩ := He.ba h
  obtain ⟨h11, h⟩ := He.ba h
  obtain ⟨h12, h⟩ := He.ba h
  obtain ⟨h13, h⟩ := He.ba h
  obtain ⟨h14, h⟩ := He.ba h
  obtain ⟨h15, h⟩ := He.ba h
  obtain ⟨h16, h⟩ := He.ba h
  obtain ⟨h17, h⟩ := He.ba h
  obtain ⟨h18, h⟩ := He.ba h
  obtain ⟨h19, h⟩ := He.ba h
  obtain ⟨h20, h⟩ := He.ba h
  obtain ⟨h21, h⟩ := He.ba h
  obtain ⟨h22, h⟩ := He.ba h
  obtain ⟨h23, h⟩ := He.ba h
  exact ⟨of_decide_eq_true h0, h1, of_decide_eq_true h2, h3, of_decide_eq_true h4, h5, of_decide_eq_true h6, h7, of_decide_eq_true h8, h9, of_decide_eq_true h10, h11, of_decide_eq_true h12, h13, h14, of_decide_eq_true h15, of_decide_eq_true h16, of_decide_eq_true h17, h18, h19, of_decide_eq_true h20, of_decide_eq_true h21, of_decide_eq_true h22, h23, h⟩
def fsK4 (K : PySem.W.Frag) (A : List Addr) : Bool := decide (PySem.W.subIn K (.ref (A.getD 6 0)) (.type "BaseException") = some true) && (decide (PySem.W.typeIn K (.ref (A.getD 6 0)) = some (.type "type")) && (decide (PySem.W.nsIn K mainGlobals "PowerGone" = some (some (.ref (A.getD 7 0)))) && (PySem.W.excIn K (A.getD 7 0) [.type "ValueError", .type "Exception", .type "BaseException", .type "object"] "ValueError.__new__" && (PySem.W.keepIn K (.ref (A.getD 7 0)) && (decide (PySem.W.subIn K (.ref (A.getD 7 0)) (.type "BaseException") = some true) && (decide (PySem.W.typeIn K (.ref (A.getD 7 0)) = some (.type "type")) && (decide (PySem.W.nsIn K mainGlobals "BlockFailed" = some (some (.ref (A.getD 8 0)))) && (oexB K (A.getD 8 0) && (decide (PySem.W.findIn K (.ref (A.getD 8 0)) "__setattr__" = some (some (.builtin "object.__setattr__"))) && (decide (PySem.W.subIn K (.ref (A.getD 8 0)) (.type "BaseException") = some true) && (decide (PySem.W.typeIn K (.ref (A.getD 8 0)) = some (.type "type")) && (PySem.W.keepIn K (.ref (A.getD 8 0)) && (decide (PySem.W.findIn K (.ref (A.getD 8 0)) "__init__" = some (some (.ref (A.getD 29 0)))) && (decide (PySem.W.typeIn K (.ref (A.getD 29 0)) = some (.type "function")) && (xfB K (A.getD 8 0) && (decide (PySem.W.findIn K (.ref (A.getD 8 0)) "block" = some none) && (decide (PySem.W.nsIn K mainGlobals "NotClear" = some (some (.ref (A.getD 9 0)))) && (oexB K (A.getD 9 0) && (decide (PySem.W.findIn K (.ref (A.getD 9 0)) "__setattr__" = some (some (.builtin "object.__setattr__"))) && (decide (PySem.W.subIn K (.ref (A.getD 9 0)) (.type "BaseException") = some true) && (decide (PySem.W.typeIn K (.ref (A.getD 9 0)) = some (.type "type")) && (PySem.W.keepIn K (.ref (A.getD 9 0)) && (decide (PySem.W.findIn K (.ref (A.getD 9 0)) "__init__" = some (some (.ref (A.getD 30 0)))) && (decide (PySem.W.typeIn K (.ref (A.getD 30 0)) = some (.type "function"))))))))))))))))))))))))))
theorem fsK4_ok {K : PySem.W.Frag} {A : List Addr} (h : fsK4 K A = true) : (PySem.W.subIn K (.ref (A.getD 6 0)) (.type "BaseException") = some true) ∧ (PySem.W.typeIn K (.ref (A.getD 6 0)) = some (.type "type")) ∧ (PySem.W.nsIn K mainGlobals "PowerGone" = some (some (.ref (A.getD 7 0)))) ∧ (PySem.W.excIn K (A.getD 7 0) [.type "ValueError", .type "Exception", .type "BaseException", .type "object"] "ValueError.__new__" = true) ∧ (PySem.W.keepIn K (.ref (A.getD 7 0)) = true) ∧ (PySem.W.subIn K (.ref (A.getD 7 0)) (.type "BaseException") = some true) ∧ (PySem.W.typeIn K (.ref (A.getD 7 0)) = some (.type "type")) ∧ (PySem.W.nsIn K mainGlobals "BlockFailed" = some (some (.ref (A.getD 8 0)))) ∧ (oexB K (A.getD 8 0) = true) ∧ (PySem.W.findIn K (.ref (A.getD 8 0)) "__setattr__" = some (some (.builtin "object.__setattr__"))) ∧ (PySem.W.subIn K (.ref (A.getD 8 0)) (.type "BaseException") = some true) ∧ (PySem.W.typeIn K (.ref (A.getD 8 0)) = some (.type "type")) ∧ (PySem.W.keepIn K (.ref (A.getD 8 0)) = true) ∧ (PySem.W.findIn K (.ref (A.getD 8 0)) "__init__" = some (some (.ref (A.getD 29 0)))) ∧ (PySem.W.typeIn K (.ref (A.getD 29 0)) = some (.type "function")) ∧ (xfB K (A.getD 8 0) = true) ∧ (PySem.W.findIn K (.ref (A.getD 8 0)) "block" = some none) ∧ (PySem.W.nsIn K mainGlobals "NotClear" = some (some (.ref (A.getD 9 0)))) ∧ (oexB K (A.getD 9 0) = true) ∧ (PySem.W.findIn K (.ref (A.getD 9 0)) "__setattr__" = some (some (.builtin "object.__setattr__"))) ∧ (PySem.W.subIn K (.ref (A.getD 9 0)) (.type "BaseException") = some true) ∧ (PySem.W.typeIn K (.ref (A.getD 9 0)) = some (.type "type")) ∧ (PySem.W.keepIn K (.ref (A.getD 9 0)) = true) ∧ (PySem.W.findIn K (.ref (A.getD 9 0)) "__init__" = some (some (.ref (A.getD 30 0)))) ∧ (PySem.W.typeIn K (.ref (A.getD 30 0)) = some (.type "function")) := by
  unfold fsK4 at h
  obtain ⟨h0, h⟩ := He.ba h
  obtain ⟨h1, h⟩ := He.ba h
  obtain ⟨h2, h⟩ := He.ba h
  obtain ⟨h3, h⟩ := He.ba h
  obtain ⟨h4, h⟩ := He.ba h
  obtain ⟨h5, h⟩ := He.ba h
  obtain ⟨h6, h⟩ := He.ba h
  obtain ⟨h7, h⟩ := He.ba h
  obtain ⟨h8, h⟩ := He.ba h
  obtain ⟨h9, h⟩ := He.ba h
  obtain ⟨h10, h⟩ := He.ba h
  obtain ⟨h11, h⟩ := He.ba h
  obtain ⟨h12, h⟩ := He.ba h
  obtain ⟨h13, h⟩ := He.ba h
  obtain ⟨h14, h⟩ := He.ba h
  obtain ⟨h15, h⟩ := He.ba h
  obtain ⟨h16, h⟩ := He.ba h
  obtain ⟨h17, h⟩ := He.ba h
  obtain ⟨h18, h⟩ := He.ba h
  obtain ⟨h19, h⟩ := He.ba h
  obtain ⟨h20, h⟩ := He.ba h
  obtain ⟨h21, h⟩ := He.ba h
  obtain ⟨h22, h⟩ := He.ba h
  obtain ⟨h23, h⟩ := He.ba h
  exact ⟨of_decide_eq_true h0, of_decide_eq_true h1, of_decide_eq_true h2, h3, h4, of_decide_eq_true h5, of_decide_eq_true h6, of_decide_eq_true h7, h8, of_decide_eq_true h9, of_decide_eq_true h10, of_decide_eq_true h11, h12, of_decide_eq_true h13, of_decide_eq_true h14, h15, of_decide_eq_true h16, of_decide_eq_true h17, h18, of_decide_eq_true h19, of_decide_eq_true h20, of_decide_eq_true h21, h22, of_decide_eq_true h23, of_decide_eq_true h⟩
def fsK5 (K : PySem.W.Frag) (A : List Addr) : Bool := xfB K (A.getD 9 0) && (decide (PySem.W.findIn K (.ref (A.getD 9 0)) "page" = some none) && (decide (PySem.W.specialIn K (.ref (A.getD 4 0)) "__getattribute__" = some (some (.builtin "type.__getattribute__"))) && (PySem.W.readsIn K (A.getD 4 0) (.type "type") && (fclB (PySem.W.findCls K (.ref (A.getD 4 0)) (.type "type") "__init__") (.builtin "ValueError.__init__") && (decide (PySem.W.nsIn K mainGlobals "len" = some none) && (decide (PySem.W.nsIn K mainGlobals "isinstance" = some none) && (decide (PySem.W.nsIn K mainGlobals "min" = some none) && (decide (PySem.W.nsIn K mainGlobals "sorted" = some none) && (decide (PySem.W.nsIn K mainGlobals "int" = some none) && (decide (PySem.W.nsIn K mainGlobals "str" = some none) && (decide (PySem.W.nsIn K mainGlobals "list" = some none) && (decide (PySem.W.nsIn K mainGlobals "tuple" = some none) && (decide (PySem.W.nsIn K mainGlobals "bool" = some none) && (decide (PySem.W.nsIn K mainGlobals "range" = some none) && (decide (PySem.W.nsIn K mainGlobals "zip" = some none) && (decide (PySem.W.nsIn K mainGlobals "ValueError" = some none) && (decide (PySem.W.nsIn K mainGlobals "ROLL" = some (some (gvK K "ROLL"))) && (He.relB (V.int (64)) (gvK K "ROLL") && (decide (PySem.W.nsIn K mainGlobals "MANY" = some (some (gvK K "MANY"))) && (He.relB (V.int (16)) (gvK K "MANY") && (decide (PySem.W.nsIn K mainGlobals "MOST" = some (some (gvK K "MOST"))) && (He.relB (V.int (1000000)) (gvK K "MOST")))))))))))))))))))))))
theorem fsK5_ok {K : PySem.W.Frag} {A : List Addr} (h : fsK5 K A = true) : (xfB K (A.getD 9 0) = true) ∧ (PySem.W.findIn K (.ref (A.getD 9 0)) "page" = some none) ∧ (PySem.W.specialIn K (.ref (A.getD 4 0)) "__getattribute__" = some (some (.builtin "type.__getattribute__"))) ∧ (PySem.W.readsIn K (A.getD 4 0) (.type "type") = true) ∧ (fclB (PySem.W.findCls K (.ref (A.getD 4 0)) (.type "type") "__init__") (.builtin "ValueError.__init__") = true) ∧ (PySem.W.nsIn K mainGlobals "len" = some none) ∧ (PySem.W.nsIn K mainGlobals "isinstance" = some none) ∧ (PySem.W.nsIn K mainGlobals "min" = some none) ∧ (PySem.W.nsIn K mainGlobals "sorted" = some none) ∧ (PySem.W.nsIn K mainGlobals "int" = some none) ∧ (PySem.W.nsIn K mainGlobals "str" = some none) ∧ (PySem.W.nsIn K mainGlobals "list" = some none) ∧ (PySem.W.nsIn K mainGlobals "tuple" = some none) ∧ (PySem.W.nsIn K mainGlobals "bool" = some none) ∧ (PySem.W.nsIn K mainGlobals "range" = some none) ∧ (PySem.W.nsIn K mainGlobals "zip" = some none) ∧ (PySem.W.nsIn K mainGlobals "ValueError" = some none) ∧ (PySem.W.nsIn K mainGlobals "ROLL" = some (some (gvK K "ROLL"))) ∧ (He.relB (V.int (64)) (gvK K "ROLL") = true) ∧ (PySem.W.nsIn K mainGlobals "MANY" = some (some (gvK K "MANY"))) ∧ (He.relB (V.int (16)) (gvK K "MANY") = true) ∧ (PySem.W.nsIn K mainGlobals "MOST" = some (some (gvK K "MOST"))) ∧ (He.relB (V.int (1000000)) (gvK K "MOST") = true) := by
  unfold fsK5 at h
  obtain ⟨h0, h⟩ := He.ba h
  obtain ⟨h1, h⟩ := He.ba h
  obtain ⟨h2, h⟩ := He.ba h
  obtain ⟨h3, h⟩ := He.ba h
  obtain ⟨h4, h⟩ := He.ba h
  obtain ⟨h5, h⟩ := He.ba h
  obtain ⟨h6, h⟩ := He.ba h
  obtain ⟨h7, h⟩ := He.ba h
  obtain ⟨h8, h⟩ := He.ba h
  obtain ⟨h9, h⟩ := He.ba h
  obtain ⟨h10, h⟩ := He.ba h
  obtain ⟨h11, h⟩ := He.ba h
  obtain ⟨h12, h⟩ := He.ba h
  obtain ⟨h13, h⟩ := He.ba h
  obtain ⟨h14, h⟩ := He.ba h
  obtain ⟨h15, h⟩ := He.ba h
  obtain ⟨h16, h⟩ := He.ba h
  obtain ⟨h17, h⟩ := He.ba h
  obtain ⟨h18, h⟩ := He.ba h
  obtain ⟨h19, h⟩ := He.ba h
  obtain ⟨h20, h⟩ := He.ba h
  obtain ⟨h21, h⟩ := He.ba h
  exact ⟨h0, of_decide_eq_true h1, of_decide_eq_true h2, h3, h4, of_decide_eq_true h5, of_decide_eq_true h6, of_decide_eq_true h7, of_decide_eq_true h8, of_decide_eq_true h9, of_decide_eq_true h10, of_decide_eq_true h11, of_decide_eq_true h12, of_decide_eq_true h13, of_decide_eq_true h14, of_decide_eq_true h15, of_decide_eq_true h16, of_decide_eq_true h17, h18, of_decide_eq_true h19, h20, of_decide_eq_true h21, h⟩
def fsK (K : PySem.W.Frag) (A : List Addr) : Bool := fsK0 K A && (fsK1 K A && (fsK2 K A && (fsK3 K A && (fsK4 K A && (fsK5 K A)))))
def fnK0 : List DefK := [⟨18, "mark_of", "mark_of", defArgs s_mark_of, defBody s_mark_of, defScope s_mark_of, []⟩,
  ⟨19, "stamp_of", "stamp_of", defArgs s_stamp_of, defBody s_stamp_of, defScope s_stamp_of, []⟩,
  ⟨20, "name_of", "name_of", defArgs s_name_of, defBody s_name_of, defScope s_name_of, []⟩,
  ⟨21, "sheets_of", "sheets_of", defArgs s_sheets_of, defBody s_sheets_of, defScope s_sheets_of, []⟩,
  ⟨22, "__init__", "Book.__init__", defArgs s_Book_init, defBody s_Book_init, defScope s_Book_init, []⟩,
  ⟨23, "start_at", "Book.start_at", defArgs s_Book_start_at, defBody s_Book_start_at, defScope s_Book_start_at, []⟩,
  ⟨24, "mark", "Book.mark", defArgs s_Book_mark, defBody s_Book_mark, defScope s_Book_mark, []⟩,
  ⟨25, "note", "Book.note", defArgs s_Book_note, defBody s_Book_note, defScope s_Book_note, []⟩,
  ⟨26, "forget", "Book.forget", defArgs s_Book_forget, defBody s_Book_forget, defScope s_Book_forget, []⟩,
  ⟨27, "held", "Book.held", defArgs s_Book_held, defBody s_Book_held, defScope s_Book_held, []⟩,
  ⟨28, "tell", "Book.tell", defArgs s_Book_tell, defBody s_Book_tell, defScope s_Book_tell, []⟩,
  ⟨29, "__init__", "BlockFailed.__init__", defArgs s_BlockFailed_init, defBody s_BlockFailed_init, defScope s_BlockFailed_init, []⟩,
  ⟨30, "__init__", "NotClear.__init__", defArgs s_NotClear_init, defBody s_NotClear_init, defScope s_NotClear_init, []⟩,
  ⟨31, "is_whole", "is_whole", defArgs s_is_whole, defBody s_is_whole, defScope s_is_whole, []⟩,
  ⟨32, "is_within", "is_within", defArgs s_is_within, defBody s_is_within, defScope s_is_within, []⟩,
  ⟨33, "rows_by_stamp", "rows_by_stamp", defArgs s_rows_by_stamp, defBody s_rows_by_stamp, defScope s_rows_by_stamp, []⟩,
  ⟨34, "stamp_of_roll", "stamp_of_roll", defArgs s_stamp_of_roll, defBody s_stamp_of_roll, defScope s_stamp_of_roll, []⟩,
  ⟨35, "book_of", "book_of", defArgs s_book_of, defBody s_book_of, defScope s_book_of, []⟩,
  ⟨36, "endurance", "endurance", defArgs s_endurance, defBody s_endurance, defScope s_endurance, []⟩,
  ⟨37, "__init__", "Chip.__init__", defArgs s_Chip_init, defBody s_Chip_init, defScope s_Chip_init, [.int (1000000), .non]⟩]
def fnK1 : List DefK := [⟨38, "need_page", "Chip.need_page", defArgs s_Chip_need_page, defBody s_Chip_need_page, defScope s_Chip_need_page, []⟩,
  ⟨39, "need_block", "Chip.need_block", defArgs s_Chip_need_block, defBody s_Chip_need_block, defScope s_Chip_need_block, []⟩,
  ⟨40, "need_power", "Chip.need_power", defArgs s_Chip_need_power, defBody s_Chip_need_power, defScope s_Chip_need_power, []⟩,
  ⟨41, "need_good", "Chip.need_good", defArgs s_Chip_need_good, defBody s_Chip_need_good, defScope s_Chip_need_good, []⟩,
  ⟨42, "goes_well", "Chip.goes_well", defArgs s_Chip_goes_well, defBody s_Chip_goes_well, defScope s_Chip_goes_well, []⟩,
  ⟨43, "put", "Chip.put", defArgs s_Chip_put, defBody s_Chip_put, defScope s_Chip_put, []⟩,
  ⟨44, "read", "Chip.read", defArgs s_Chip_read, defBody s_Chip_read, defScope s_Chip_read, []⟩,
  ⟨45, "is_dark", "Chip.is_dark", defArgs s_Chip_is_dark, defBody s_Chip_is_dark, defScope s_Chip_is_dark, []⟩,
  ⟨46, "failed", "Chip.failed", defArgs s_Chip_failed, defBody s_Chip_failed, defScope s_Chip_failed, []⟩,
  ⟨47, "deeds", "Chip.deeds", defArgs s_Chip_deeds, defBody s_Chip_deeds, defScope s_Chip_deeds, []⟩,
  ⟨48, "_law_cell_at", "_law_cell_at", defArgs s__law_cell_at, defBody s__law_cell_at, defScope s__law_cell_at, []⟩,
  ⟨49, "_law_whole", "_law_whole", defArgs s__law_whole, defBody s__law_whole, defScope s__law_whole, []⟩,
  ⟨50, "_law_mix", "_law_mix", defArgs s__law_mix, defBody s__law_mix, defScope s__law_mix, []⟩,
  ⟨51, "_law_numbers", "_law_numbers", defArgs s__law_numbers, defBody s__law_numbers, defScope s__law_numbers, []⟩,
  ⟨52, "_law_pairs", "_law_pairs", defArgs s__law_pairs, defBody s__law_pairs, defScope s__law_pairs, []⟩,
  ⟨53, "_law_told", "_law_told", defArgs s__law_told, defBody s__law_told, defScope s__law_told, []⟩,
  ⟨54, "_law_due", "_law_due", defArgs s__law_due, defBody s__law_due, defScope s__law_due, []⟩,
  ⟨55, "_law_laid", "_law_laid", defArgs s__law_laid, defBody s__law_laid, defScope s__law_laid, []⟩,
  ⟨56, "law", "law", defArgs s_law, defBody s_law, defScope s_law, []⟩]
def fnK : List DefK := fnK0 ++ (fnK1)
def nmK0 : List PySem.Str := ["_wall", "ROLL", "mark_of", "stamp_of", "name_of", "sheets_of", "Book", "WornError", "NoChip", "NoPlace", "PowerGone", "BlockFailed", "NotClear", "is_whole", "is_within", "rows_by_stamp", "stamp_of_roll", "book_of", "MANY", "MOST", "endurance", "Chip", "_law_cell_at", "_law_whole", "_law_mix", "_law_numbers", "_law_pairs", "_law_told", "_law_due", "_law_laid"]
def nmK : List PySem.Str := nmK0
abbrev RK : PySem.W.OpenRow := PySem.W.OpenLaw.row PySem.Challenge.rw_wornpages_k61_pages_laid_by_hand
abbrev qK : Program := PySem.W.view RK.prog [37]
def lsK0 (g : Addr → Option Obj) : List Addr := [mainGlobals, cStatics, gK g "Book", gK g "Chip", gK g "WornError", gK g "NoChip", gK g "NoPlace", gK g "PowerGone", gK g "BlockFailed", gK g "NotClear", nsK g (gK g "Book"), nsK g (gK g "Chip"), nsK g (gK g "WornError"), nsK g (gK g "NoChip"), nsK g (gK g "NoPlace"), nsK g (gK g "PowerGone"), nsK g (gK g "BlockFailed"), nsK g (gK g "NotClear"), gK g "mark_of", gK g "stamp_of"]
def lsK1 (g : Addr → Option Obj) : List Addr := [gK g "name_of", gK g "sheets_of", mK g "Book" "__init__", mK g "Book" "start_at", mK g "Book" "mark", mK g "Book" "note", mK g "Book" "forget", mK g "Book" "held", mK g "Book" "tell", mK g "BlockFailed" "__init__", mK g "NotClear" "__init__", gK g "is_whole", gK g "is_within", gK g "rows_by_stamp", gK g "stamp_of_roll", gK g "book_of", gK g "endurance", mK g "Chip" "__init__", mK g "Chip" "need_page", mK g "Chip" "need_block"]
def lsK2 (g : Addr → Option Obj) : List Addr := [mK g "Chip" "need_power", mK g "Chip" "need_good", mK g "Chip" "goes_well", mK g "Chip" "put", mK g "Chip" "read", mK g "Chip" "is_dark", mK g "Chip" "failed", mK g "Chip" "deeds", gK g "_law_cell_at", gK g "_law_whole", gK g "_law_mix", gK g "_law_numbers", gK g "_law_pairs", gK g "_law_told", gK g "_law_due", gK g "_law_laid", gK g "law", cdK g (gK g "mark_of"), cdK g (gK g "stamp_of"), cdK g (gK g "name_of")]
def lsK3 (g : Addr → Option Obj) : List Addr := [cdK g (gK g "sheets_of"), cdK g (mK g "Book" "__init__"), cdK g (mK g "Book" "start_at"), cdK g (mK g "Book" "mark"), cdK g (mK g "Book" "note"), cdK g (mK g "Book" "forget"), cdK g (mK g "Book" "held"), cdK g (mK g "Book" "tell"), cdK g (mK g "BlockFailed" "__init__"), cdK g (mK g "NotClear" "__init__"), cdK g (gK g "is_whole"), cdK g (gK g "is_within"), cdK g (gK g "rows_by_stamp"), cdK g (gK g "stamp_of_roll"), cdK g (gK g "book_of"), cdK g (gK g "endurance"), cdK g (mK g "Chip" "__init__"), cdK g (mK g "Chip" "need_page"), cdK g (mK g "Chip" "need_block"), cdK g (mK g "Chip" "need_power")]
def lsK4 (g : Addr → Option Obj) : List Addr := [cdK g (mK g "Chip" "need_good"), cdK g (mK g "Chip" "goes_well"), cdK g (mK g "Chip" "put"), cdK g (mK g "Chip" "read"), cdK g (mK g "Chip" "is_dark"), cdK g (mK g "Chip" "failed"), cdK g (mK g "Chip" "deeds"), cdK g (gK g "_law_cell_at"), cdK g (gK g "_law_whole"), cdK g (gK g "_law_mix"), cdK g (gK g "_law_numbers"), cdK g (gK g "_law_pairs"), cdK g (gK g "_law_told"), cdK g (gK g "_law_due"), cdK g (gK g "_law_laid"), cdK g (gK g "law"), dfK g (mK g "Chip" "__init__")]
def lsK (g : Addr → Option Obj) : List Addr := lsK0 g ++ (lsK1 g ++ (lsK2 g ++ (lsK3 g ++ (lsK4 g))))
abbrev hkK : PySem.W.Hook := hookK lsK fsK fnK
def obK (s : PySem.W.SharedT) : FnWK := obsKG lsK fsK fnK (HandSHeadRun.getT s)
theorem obK_eq (s : PySem.W.SharedT) : obK s = hkK.obs s.abs := obsKG_eq (HandSHeadRun.getT_eq s)
theorem runK (w : World) : HandSHeadRun.RunEq RK qK hkK obK 20000 nmK w := by
  intro os
  kernel_rfl
/-! steps of a reading: "s" one step, "go" as far as it goes -/
local macro_rules | `(tactic| walk_at "sq") => `(tactic| first | assumption | exact SqL.of (by assumption) | exact SqT.of (by assumption) | (refine' Same.seq ?hsm ?hsq; (case hsm => assumption); (case hsq => walk_at "sq")) | (refine' SqL.of ?hhq; (case hhq => walk_at "hp")) | (refine SqT.of ?_; walk_at "hp"))
local macro_rules | `(tactic| walk_at "hp") => `(tactic| first | assumption | (refine' (show Same _ _ by assumption) _ _ ?hhp; (case hhp => walk_at "hp")))
local macro_rules | `(tactic| walk_at "nin") => `(tactic| first | exact nin_of (by assumption) | exact nin_of (Ne.symm (by assumption)))
local macro_rules | `(tactic| walk_at "off") => `(tactic| first | exact Off.refl | exact Off.of (by assumption) | exact Off.sub (by assumption) (by intro b hb; rw [List.mem_singleton] at hb; subst hb; simp) | (refine Off.trans ?_ (Off.of (by assumption)); walk_at "off") | (refine Off.trans ?_ (Off.sub (by assumption) (by intro b hb; rw [List.mem_singleton] at hb; subst hb; simp)); walk_at "off") | (refine Off.trans ?_ (by assumption); walk_at "off"))
local macro_rules | `(tactic| walk_at "hp") => `(tactic| first | assumption | (refine' Off.at ?hO1 ?hO3 ?hO2; (case hO1 => assumption); (case hO2 => walk_at "nin"); (case hO3 => walk_at "hp")) | (refine' Off.lst ?hO1 ?hO2 ?hO3; (case hO1 => assumption); (case hO2 => assumption); (case hO3 => walk_at "hp")) | (refine' (show Same _ _ by assumption) _ _ ?hhp; (case hhp => walk_at "hp")))
local macro_rules | `(tactic| walk_at "nn") => `(tactic| (refine' ne_of_none ?nna ?nnb; (case nnb => assumption); (case nna => walk_at "hp")))
local macro_rules | `(tactic| walk_at "side") => `(tactic| first | assumption | decide | omega | exact ⟨by decide, by decide, by decide⟩ | exact ⟨by decide, by decide +kernel⟩ | exact Or.inr ⟨by decide, by decide⟩ | exact ⟨by omega, by omega⟩ | exact Or.inl ⟨by omega, by omega⟩ | exact Or.inr ⟨by omega, by omega⟩ | exact cdivW (by omega) (by omega) | (simp only [List.length_cons, List.length_nil, List.length_append, Nat.zero_add, Nat.reduceAdd, Nat.reduceMul]; decide) | (simp only [List.length_append, List.length_cons, List.length_nil, List.length_map]; omega) | (simp; done))
local macro_rules | `(tactic| walk_at "isi") => `(tactic| first
  | with_reducible refine x_isiNon_int ?_
  | with_reducible refine x_isiNon_bool ?_
  | with_reducible refine x_isiNon_str ?_
  | with_reducible refine x_isiNon_list ?_
  | with_reducible refine x_isiNon_tuple ?_
  | with_reducible refine x_isiNon_dict ?_
  | with_reducible refine x_isiBl_int ?_
  | with_reducible refine x_isiBl_bool ?_
  | with_reducible refine x_isiBl_str ?_
  | with_reducible refine x_isiBl_list ?_
  | with_reducible refine x_isiBl_tuple ?_
  | with_reducible refine x_isiBl_dict ?_
  | with_reducible refine x_isiInt_int ?_
  | with_reducible refine x_isiInt_bool ?_
  | with_reducible refine x_isiInt_str ?_
  | with_reducible refine x_isiInt_list ?_
  | with_reducible refine x_isiInt_tuple ?_
  | with_reducible refine x_isiInt_dict ?_
  | with_reducible refine x_isiStr_int ?_
  | with_reducible refine x_isiStr_bool ?_
  | with_reducible refine x_isiStr_str ?_
  | with_reducible refine x_isiStr_list ?_
  | with_reducible refine x_isiStr_tuple ?_
  | with_reducible refine x_isiStr_dict ?_
  | with_reducible refine x_isiLst_int (by assumption) ?_
  | with_reducible refine x_isiLst_bool (by assumption) ?_
  | with_reducible refine x_isiLst_str (by assumption) ?_
  | with_reducible refine x_isiLst_list (by assumption) ?_
  | with_reducible refine x_isiLst_tuple (by assumption) ?_
  | with_reducible refine x_isiLst_dict (by assumption) ?_
  | with_reducible refine x_isiTup_int (by assumption) ?_
  | with_reducible refine x_isiTup_bool (by assumption) ?_
  | with_reducible refine x_isiTup_str (by assumption) ?_
  | with_reducible refine x_isiTup_list (by assumption) ?_
  | with_reducible refine x_isiTup_tuple (by assumption) ?_
  | with_reducible refine x_isiTup_dict (by assumption) ?_
  | with_reducible refine x_isiDk_int (by assumption) ?_
  | with_reducible refine x_isiDk_bool (by assumption) ?_
  | with_reducible refine x_isiDk_str (by assumption) ?_
  | with_reducible refine x_isiDk_list (by assumption) ?_
  | with_reducible refine x_isiDk_tuple (by assumption) ?_
  | with_reducible refine x_isiDk_dict (by assumption) ?_)
local macro_rules | `(tactic| walk_at "s") => `(tactic| first
  | walk_at "u"
  | with_reducible refine x_seqA ?_
  | with_reducible refine x_seqD ?_
  | with_reducible refine x_seqF ?_
  | with_reducible refine x_seqFA ?_
  | with_reducible refine x_seqAug ?_
  | with_reducible refine x_asg ?_
  | ((with_reducible refine' x_var ?hv ?_); case hv => exact rfl)
  | with_reducible refine x_c ?_
  | with_reducible refine x_op ?_
  | with_reducible refine x_cb ?_
  | with_reducible refine x_cons ?_
  | with_reducible refine x_nil ?_
  | ((with_reducible refine x_gname ?_); (try dsimp only [List.set]))
  | with_reducible refine x_if ?_
  | with_reducible refine x_ret ?_
  | with_reducible refine x_test ?_
  | ((with_reducible refine x_isbl ?_); try dsimp only)
  | ((with_reducible refine x_truBl ?_); try dsimp only)
  | with_reducible refine x_callS ?_
  | with_reducible refine x_iteT ?_
  | with_reducible refine x_iteF ?_
  | with_reducible refine x_iteN ?_
  | with_reducible refine x_I0 ?_
  | with_reducible refine x_addI ?_
  | with_reducible refine x_lt ?_
  | ((with_reducible refine x_pow ?_ ?hs); (try (case hs => walk_at "side")); (try simp only [Int.reduceToNat]))
  | ((with_reducible refine x_I ?_ ?hs); (try (case hs => walk_at "side")))
  | ((with_reducible refine x_mulI ?_ ?hs); (case hs => walk_at "side"))
  | ((with_reducible refine x_mulU ?_ ?hs); (try (case hs => walk_at "side")))
  | with_reducible refine x_eqI ?_
  | with_reducible refine x_neI ?_
  | with_reducible refine x_eqB ?_
  | with_reducible refine x_neB ?_
  | with_reducible refine x_eqS ?_
  | with_reducible refine x_andT ?_
  | with_reducible refine x_orT ?_
  | with_reducible refine x_notT ?_
  | with_reducible refine x_and ?_
  | with_reducible refine x_or ?_
  | with_reducible refine x_not ?_
  | with_reducible refine x_chain ?_
  | with_reducible refine x_tB ?_
  | with_reducible refine x_tup ?_
  | with_reducible refine x_lst ?_
  | with_reducible refine x_un ?_
  | ((with_reducible refine x_nwL ?_ ?hs); (try (case hs => walk_at "side")); intro p H1 hp hs hn)
  | ((with_reducible refine x_nwT ?_ ?hs); (try (case hs => walk_at "side")); intro p H1 hp hs hn)
  | ((with_reducible refine' x_addL ?h1 ?h2 ?_ ?hs); (case h1 => walk_at "hp"); (case h2 => walk_at "hp"); (try (case hs => walk_at "side")); intro p H1 hp hs hn)
  | ((with_reducible refine' x_rep1 ?h1 ?_ ?h0); (case h1 => walk_at "hp"); (try (case h0 => walk_at "side")); intro p H1 hp hs hn)
  | ((with_reducible refine' x_rep ?h1 ?_ ?h2 ?h0 ?hs); (case h1 => walk_at "hp"); (try (case h2 => walk_at "side")); (try (case h0 => walk_at "side")); (try (case hs => walk_at "side")); intro p H1 hp hs hn)
  | ((with_reducible refine' x_addS ?_ ?hs); (try (case hs => walk_at "side")))
  | with_reducible refine x_U ?_
  | with_reducible refine x_drop ?_
  | with_reducible refine x_retN ?_
  | ((with_reducible refine x_next ?_); try dsimp only)
  | with_reducible refine x_ifExp ?_
  | ((with_reducible refine' x_lenM ?hq ?_); case hq => walk_at "sq")
  | ((with_reducible refine' x_lenL ?hq ?_); case hq => walk_at "sq")
  | ((with_reducible refine' x_lenD ?hq ?_); case hq => walk_at "hp")
  | ((with_reducible refine' x_lenT ?hq ?_); case hq => walk_at "sq")
  | ((with_reducible refine' x_ixH ?hq ?_); (case hq => walk_at "sq"))
  | ((with_reducible refine' x_ixS ?hq ?ha ?_); (case hq => walk_at "sq"); (case ha => first | assumption | exact rfl))
  | ((with_reducible refine' x_ixI ?hq ?_ ?h0 ?h1); (case hq => walk_at "sq"); (try (case h0 => walk_at "side")); (try (case h1 => walk_at "side")))
  | ((with_reducible refine' x_ixB ?hq ?_ ?h0 ?h1); (case hq => walk_at "sq"); (try (case h0 => walk_at "side")); (try (case h1 => walk_at "side")))
  | ((with_reducible refine' x_ixL ?hq ?_ ?h0 ?h1); (case hq => walk_at "sq"); (try (case h0 => walk_at "side")); (try (case h1 => walk_at "side")))
  | ((with_reducible refine' x_ixT ?hq ?ha ?_); (case hq => walk_at "sq"); case ha => exact rfl)
  | walk_at "isi"
  | with_reducible refine x_bm ?_
  | ((with_reducible refine' x_bmL ?hq ?_); (case hq => walk_at "sq"))
  | with_reducible refine x_bm0 ?_
  | ((with_reducible refine' x_bm0L ?hq ?_); (case hq => walk_at "sq"))
  | ((with_reducible refine' x_append ?ho ?_ ?hl); (case ho => walk_at "hp"); (try (case hl => walk_at "side")))
  | ((with_reducible refine' x_clear ?ho ?_); (case ho => walk_at "hp"))
  | with_reducible refine x_slice ?_
  | with_reducible refine x_noPart ?_
  | with_reducible refine x_part ?_
  | with_reducible refine x_ptK ?_
  | ((with_reducible refine' x_slL ?hq ?_); (case hq => walk_at "sq"); intro p H1 hp hs hn)
  | with_reducible refine x_forL ?_
  | with_reducible refine x_forT ?_
  | with_reducible refine x_forS ?_
  | with_reducible refine x_forR1 ?_
  | with_reducible refine x_forR2 ?_
  | with_reducible refine x_forEn ?_
  | with_reducible refine x_forZ ?_
  | with_reducible refine x_lcL ?_
  | with_reducible refine x_lcR1 ?_
  | with_reducible refine x_lcR2 ?_
  | with_reducible refine x_yes ?_
  | ((with_reducible refine x_mk0 ?_); intro p dp H1 hp hdp hne hs hn hd)
  | with_reducible refine x_mkS ?_
  | ((with_reducible refine x_mkK ?_); intro p dp H1 hp hdp hne hs hn hd)
  | with_reducible refine x_methD ?_
  | with_reducible refine x_fldAug ?_
  | with_reducible refine x_dget ?_
  | ((with_reducible refine' x_dgS ?ho ?hv ?_); (case ho => walk_at "hp"); (case hv => exact rfl); (try dsimp only))
  | with_reducible refine x_dput ?_
  | with_reducible refine x_seqDP ?_
  | with_reducible refine x_prN ?_
  | with_reducible refine x_prC ?_
  | ((with_reducible refine x_disp ?_); intro p H1 hp hs hn)
  | ((with_reducible refine x_dnew ?_); intro p H1 hp hs hn)
  | with_reducible refine x_din ?_
  | with_reducible refine x_dnin ?_
  | ((with_reducible refine' x_dninI ?ho ?_); (case ho => walk_at "hp"))
  | with_reducible refine x_dget1 ?_
  | with_reducible refine x_dsetd ?_
  | with_reducible refine x_dpop1 ?_
  | with_reducible refine x_dpop2 ?_
  | ((with_reducible refine' x_dinI ?ho ?_); (case ho => walk_at "hp"))
  | ((with_reducible refine' x_dg1K ?ho ?_); (case ho => walk_at "hp"))
  | ((with_reducible refine' x_dg1I ?ho ?_); (case ho => walk_at "hp"))
  | ((with_reducible refine' x_dsK ?ho ?_); (case ho => walk_at "hp"))
  | ((with_reducible refine' x_dpp1K ?ho ?_); (case ho => walk_at "hp"))
  | ((with_reducible refine' x_dpp2K ?ho ?_); (case ho => walk_at "hp"))
  | with_reducible refine x_augS ?_
  | with_reducible refine x_seqAS ?_
  | with_reducible refine x_rSub ?_
  | ((with_reducible refine' x_getI ?hq ?_ ?h0 ?h1); (case hq => walk_at "sq"); (try (case h0 => walk_at "side")); (try (case h1 => walk_at "side")))
  | ((with_reducible refine' x_getL ?hq ?_ ?h0 ?h1); (case hq => walk_at "sq"); (try (case h0 => walk_at "side")); (try (case h1 => walk_at "side")))
  | with_reducible refine x_gsub ?_
  | ((with_reducible refine' x_setL ?ho ?_ ?h0 ?h1); (case ho => walk_at "hp"); (try (case h0 => walk_at "side")); (try (case h1 => walk_at "side")); intro H1 hO hI; (try dsimp only))
  | ((with_reducible refine' x_sfN ?ho ?hf ?_ ?hc ?hn ?hl); (case ho => walk_at "hp"); (case hf => exact rfl); (case hc => walk_at "cls"); (case hn => walk_at "na"); (case hl => exact Nat.le_of_ble_eq_true rfl); intro H1 hO hI; (dsimp only [List.cons_append, List.nil_append] at hI); (try dsimp only))
  | ((with_reducible refine' x_fldK ?ho ?hf ?_ ?hc ?hn); (case ho => walk_at "hp"); (case hf => exact rfl); (case hc => walk_at "cls"); (case hn => walk_at "na"))
  | ((with_reducible refine' x_aug ?hv ?_); case hv => exact rfl)
  | ((with_reducible refine x_ipI ?_); (try dsimp only [List.set]))
  | with_reducible refine x_rAdd ?_
  | with_reducible refine x_isB ?_
  | with_reducible refine x_isNotB ?_
  | with_reducible refine x_isN ?_
  | with_reducible refine x_isNotN ?_
  | ((with_reducible refine' x_inI ?hq ?_); (case hq => walk_at "sq"))
  | ((with_reducible refine' x_notInI ?hq ?_); (case hq => walk_at "sq"))
  | ((with_reducible refine x_intB ?_); try dsimp only)
  | with_reducible refine x_intI ?_
  | with_reducible refine x_raise ?_
  | with_reducible refine x_seqR ?_
  | with_reducible refine x_mkE ?_
  | with_reducible refine x_try1 ?_
  | with_reducible refine x_seqT1 ?_
  | with_reducible refine x_tryA ?_
  | with_reducible refine x_seqTA ?_
  | with_reducible refine x_tryK ?_
  | with_reducible refine x_seqTK ?_
  | with_reducible refine x_tryM ?_
  | with_reducible refine x_seqTM ?_
  | with_reducible refine x_mix ?_
  | with_reducible refine x_seqMix ?_
  | with_reducible refine x_xf ?_
  | with_reducible refine x_mkO ?_
  | with_reducible refine x_vei ?_
  | with_reducible refine x_fld ?_
  | with_reducible refine x_sfld ?_
  | ((with_reducible refine' x_gtup2 ?hq ?_); (case hq => walk_at "sq"); (try dsimp only [List.set]))
  | ((with_reducible refine' x_glst4 ?hq ?_); (case hq => walk_at "sq"); (try dsimp only [List.set]))
  | with_reducible refine x_max2 ?_
  | with_reducible refine x_min2 ?_
  | ((with_reducible refine' x_list ?hq ?_); (case hq => walk_at "sq"); intro p H1 hp hs hn)
  | with_reducible refine x_listRev ?_
  | ((with_reducible refine' x_lrK ?hq ?_); (case hq => walk_at "sq"); intro p H1 hp hs hn)
  | ((with_reducible refine' x_tupL ?hq ?_); (case hq => walk_at "sq"); intro p H1 hp hs hn)
  | ((with_reducible refine' x_listD ?hq ?_); (case hq => walk_at "hp"); intro p H1 hp hs hn)
  | ((with_reducible refine x_shl ?_ ?hs); (try (case hs => walk_at "side")))
  | ((with_reducible refine x_str ?_ ?hs); (try (case hs => walk_at "side"))))
local macro_rules | `(tactic| walk_at "go") => `(tactic| repeat walk_at "s")
local macro_rules | `(tactic| walk_at "begin") => `(tactic| simp only [L2H.cxH, cxOf, L2.start, List.map, List.length_cons, List.length_nil, List.replicate, Nat.reduceAdd, Nat.reduceSub, List.cons_append, List.nil_append])
local macro_rules | `(tactic| walk_at "if") => `(tactic| ((with_reducible refine x_seq ?_); repeat walk_at "s"))

local macro_rules | `(tactic| walk_at "exv") => `(tactic| first | assumption | ((refine' ExV.mono ?exa ?exb); (case exa => assumption); (case exb => assumption)) | ((refine' ExV.off1 ?exo ?exx ?exn); (case exo => assumption); (case exx => assumption); (case exn => assumption)))
local macro_rules | `(tactic| walk_at "u") => `(tactic| first | ((with_reducible refine' x_isVC ?exv ?exe ?exk ?_); (case exv => walk_at "exv"); (case exe => assumption); (case exk => assumption)) | ((with_reducible refine' x_isVT ?exv ?exe ?exk ?_); (case exv => walk_at "exv"); (case exe => assumption); (case exk => assumption)))


--#LAWSPEC 12

structure Txt (K : PySem.W.Frag) (mg : Str → Option Value) where
  a_mark_of : Addr
  fd_mark_of : FuncData
  F_mark_of : Fun K "mark_of" "mark_of" s_mark_of a_mark_of fd_mark_of
  bd_mark_of : Binds K fd_mark_of ["stamp", "name"] []
  k_mark_of : PySem.W.keepIn K (.ref a_mark_of) = true
  g_mark_of : mg "mark_of" = some (.ref a_mark_of)
  a_stamp_of : Addr
  fd_stamp_of : FuncData
  F_stamp_of : Fun K "stamp_of" "stamp_of" s_stamp_of a_stamp_of fd_stamp_of
  bd_stamp_of : Binds K fd_stamp_of ["mark"] []
  k_stamp_of : PySem.W.keepIn K (.ref a_stamp_of) = true
  g_stamp_of : mg "stamp_of" = some (.ref a_stamp_of)
  a_name_of : Addr
  fd_name_of : FuncData
  F_name_of : Fun K "name_of" "name_of" s_name_of a_name_of fd_name_of
  bd_name_of : Binds K fd_name_of ["mark"] []
  k_name_of : PySem.W.keepIn K (.ref a_name_of) = true
  g_name_of : mg "name_of" = some (.ref a_name_of)
  a_sheets_of : Addr
  fd_sheets_of : FuncData
  F_sheets_of : Fun K "sheets_of" "sheets_of" s_sheets_of a_sheets_of fd_sheets_of
  bd_sheets_of : Binds K fd_sheets_of ["bits"] []
  k_sheets_of : PySem.W.keepIn K (.ref a_sheets_of) = true
  g_sheets_of : mg "sheets_of" = some (.ref a_sheets_of)
  a_Book_init : Addr
  fd_Book_init : FuncData
  F_Book_init : Fun K "__init__" "Book.__init__" s_Book_init a_Book_init fd_Book_init
  bd_Book_init : Binds K fd_Book_init ["self", "blocks", "pages"] []
  k_Book_init : PySem.W.keepIn K (.ref a_Book_init) = true
  a_Book_start_at : Addr
  fd_Book_start_at : FuncData
  F_Book_start_at : Fun K "start_at" "Book.start_at" s_Book_start_at a_Book_start_at fd_Book_start_at
  bd_Book_start_at : Binds K fd_Book_start_at ["self", "stamp"] []
  k_Book_start_at : PySem.W.keepIn K (.ref a_Book_start_at) = true
  a_Book_mark : Addr
  fd_Book_mark : FuncData
  F_Book_mark : Fun K "mark" "Book.mark" s_Book_mark a_Book_mark fd_Book_mark
  bd_Book_mark : Binds K fd_Book_mark ["self", "name"] []
  k_Book_mark : PySem.W.keepIn K (.ref a_Book_mark) = true
  a_Book_note : Addr
  fd_Book_note : FuncData
  F_Book_note : Fun K "note" "Book.note" s_Book_note a_Book_note fd_Book_note
  bd_Book_note : Binds K fd_Book_note ["self", "page", "name"] []
  k_Book_note : PySem.W.keepIn K (.ref a_Book_note) = true
  a_Book_forget : Addr
  fd_Book_forget : FuncData
  F_Book_forget : Fun K "forget" "Book.forget" s_Book_forget a_Book_forget fd_Book_forget
  bd_Book_forget : Binds K fd_Book_forget ["self", "name"] []
  k_Book_forget : PySem.W.keepIn K (.ref a_Book_forget) = true
  a_Book_held : Addr
  fd_Book_held : FuncData
  F_Book_held : Fun K "held" "Book.held" s_Book_held a_Book_held fd_Book_held
  bd_Book_held : Binds K fd_Book_held ["self"] []
  k_Book_held : PySem.W.keepIn K (.ref a_Book_held) = true
  a_Book_tell : Addr
  fd_Book_tell : FuncData
  F_Book_tell : Fun K "tell" "Book.tell" s_Book_tell a_Book_tell fd_Book_tell
  bd_Book_tell : Binds K fd_Book_tell ["self"] []
  k_Book_tell : PySem.W.keepIn K (.ref a_Book_tell) = true
  a_BlockFailed_init : Addr
  fd_BlockFailed_init : FuncData
  F_BlockFailed_init : Fun K "__init__" "BlockFailed.__init__" s_BlockFailed_init a_BlockFailed_init fd_BlockFailed_init
  bd_BlockFailed_init : Binds K fd_BlockFailed_init ["self", "block"] []
  k_BlockFailed_init : PySem.W.keepIn K (.ref a_BlockFailed_init) = true
  a_NotClear_init : Addr
  fd_NotClear_init : FuncData
  F_NotClear_init : Fun K "__init__" "NotClear.__init__" s_NotClear_init a_NotClear_init fd_NotClear_init
  bd_NotClear_init : Binds K fd_NotClear_init ["self", "page"] []
  k_NotClear_init : PySem.W.keepIn K (.ref a_NotClear_init) = true
  a_is_whole : Addr
  fd_is_whole : FuncData
  F_is_whole : Fun K "is_whole" "is_whole" s_is_whole a_is_whole fd_is_whole
  bd_is_whole : Binds K fd_is_whole ["thing"] []
  k_is_whole : PySem.W.keepIn K (.ref a_is_whole) = true
  g_is_whole : mg "is_whole" = some (.ref a_is_whole)
  a_is_within : Addr
  fd_is_within : FuncData
  F_is_within : Fun K "is_within" "is_within" s_is_within a_is_within fd_is_within
  bd_is_within : Binds K fd_is_within ["thing", "low", "high"] []
  k_is_within : PySem.W.keepIn K (.ref a_is_within) = true
  g_is_within : mg "is_within" = some (.ref a_is_within)
  a_rows_by_stamp : Addr
  fd_rows_by_stamp : FuncData
  F_rows_by_stamp : Fun K "rows_by_stamp" "rows_by_stamp" s_rows_by_stamp a_rows_by_stamp fd_rows_by_stamp
  bd_rows_by_stamp : Binds K fd_rows_by_stamp ["chip"] []
  k_rows_by_stamp : PySem.W.keepIn K (.ref a_rows_by_stamp) = true
  g_rows_by_stamp : mg "rows_by_stamp" = some (.ref a_rows_by_stamp)
  a_stamp_of_roll : Addr
  fd_stamp_of_roll : FuncData
  F_stamp_of_roll : Fun K "stamp_of_roll" "stamp_of_roll" s_stamp_of_roll a_stamp_of_roll fd_stamp_of_roll
  bd_stamp_of_roll : Binds K fd_stamp_of_roll ["rows"] []
  k_stamp_of_roll : PySem.W.keepIn K (.ref a_stamp_of_roll) = true
  g_stamp_of_roll : mg "stamp_of_roll" = some (.ref a_stamp_of_roll)
  a_book_of : Addr
  fd_book_of : FuncData
  F_book_of : Fun K "book_of" "book_of" s_book_of a_book_of fd_book_of
  bd_book_of : Binds K fd_book_of ["chip"] []
  k_book_of : PySem.W.keepIn K (.ref a_book_of) = true
  g_book_of : mg "book_of" = some (.ref a_book_of)
  a_endurance : Addr
  fd_endurance : FuncData
  F_endurance : Fun K "endurance" "endurance" s_endurance a_endurance fd_endurance
  bd_endurance : Binds K fd_endurance ["blocks", "ills"] []
  k_endurance : PySem.W.keepIn K (.ref a_endurance) = true
  g_endurance : mg "endurance" = some (.ref a_endurance)
  a_Chip_init : Addr
  fd_Chip_init : FuncData
  F_Chip_init : FunD K "__init__" "Chip.__init__" (defArgs s_Chip_init) (defBody s_Chip_init) (defScope s_Chip_init) dfl_Chip_init [] a_Chip_init fd_Chip_init
  ds1_Chip_init : List Value
  dv1_Chip_init : Vals (dfl_Chip_init.drop 1) ds1_Chip_init
  bd1_Chip_init : Binds K fd_Chip_init ["self", "blocks", "pages", "most", "ills"] ds1_Chip_init
  ds2_Chip_init : List Value
  dv2_Chip_init : Vals (dfl_Chip_init.drop 0) ds2_Chip_init
  bd2_Chip_init : Binds K fd_Chip_init ["self", "blocks", "pages", "most", "ills"] ds2_Chip_init
  k_Chip_init : PySem.W.keepIn K (.ref a_Chip_init) = true
  a_Chip_need_page : Addr
  fd_Chip_need_page : FuncData
  F_Chip_need_page : Fun K "need_page" "Chip.need_page" s_Chip_need_page a_Chip_need_page fd_Chip_need_page
  bd_Chip_need_page : Binds K fd_Chip_need_page ["self", "page"] []
  k_Chip_need_page : PySem.W.keepIn K (.ref a_Chip_need_page) = true
  a_Chip_need_block : Addr
  fd_Chip_need_block : FuncData
  F_Chip_need_block : Fun K "need_block" "Chip.need_block" s_Chip_need_block a_Chip_need_block fd_Chip_need_block
  bd_Chip_need_block : Binds K fd_Chip_need_block ["self", "block"] []
  k_Chip_need_block : PySem.W.keepIn K (.ref a_Chip_need_block) = true
  a_Chip_need_power : Addr
  fd_Chip_need_power : FuncData
  F_Chip_need_power : Fun K "need_power" "Chip.need_power" s_Chip_need_power a_Chip_need_power fd_Chip_need_power
  bd_Chip_need_power : Binds K fd_Chip_need_power ["self"] []
  k_Chip_need_power : PySem.W.keepIn K (.ref a_Chip_need_power) = true
  a_Chip_need_good : Addr
  fd_Chip_need_good : FuncData
  F_Chip_need_good : Fun K "need_good" "Chip.need_good" s_Chip_need_good a_Chip_need_good fd_Chip_need_good
  bd_Chip_need_good : Binds K fd_Chip_need_good ["self", "block"] []
  k_Chip_need_good : PySem.W.keepIn K (.ref a_Chip_need_good) = true
  a_Chip_goes_well : Addr
  fd_Chip_goes_well : FuncData
  F_Chip_goes_well : Fun K "goes_well" "Chip.goes_well" s_Chip_goes_well a_Chip_goes_well fd_Chip_goes_well
  bd_Chip_goes_well : Binds K fd_Chip_goes_well ["self", "block", "worn"] []
  k_Chip_goes_well : PySem.W.keepIn K (.ref a_Chip_goes_well) = true
  a_Chip_put : Addr
  fd_Chip_put : FuncData
  F_Chip_put : Fun K "put" "Chip.put" s_Chip_put a_Chip_put fd_Chip_put
  bd_Chip_put : Binds K fd_Chip_put ["self", "page", "stuff"] []
  k_Chip_put : PySem.W.keepIn K (.ref a_Chip_put) = true
  a_Chip_read : Addr
  fd_Chip_read : FuncData
  F_Chip_read : Fun K "read" "Chip.read" s_Chip_read a_Chip_read fd_Chip_read
  bd_Chip_read : Binds K fd_Chip_read ["self", "page"] []
  k_Chip_read : PySem.W.keepIn K (.ref a_Chip_read) = true
  a_Chip_is_dark : Addr
  fd_Chip_is_dark : FuncData
  F_Chip_is_dark : Fun K "is_dark" "Chip.is_dark" s_Chip_is_dark a_Chip_is_dark fd_Chip_is_dark
  bd_Chip_is_dark : Binds K fd_Chip_is_dark ["self"] []
  k_Chip_is_dark : PySem.W.keepIn K (.ref a_Chip_is_dark) = true
  a_Chip_failed : Addr
  fd_Chip_failed : FuncData
  F_Chip_failed : Fun K "failed" "Chip.failed" s_Chip_failed a_Chip_failed fd_Chip_failed
  bd_Chip_failed : Binds K fd_Chip_failed ["self", "block"] []
  k_Chip_failed : PySem.W.keepIn K (.ref a_Chip_failed) = true
  a_Chip_deeds : Addr
  fd_Chip_deeds : FuncData
  F_Chip_deeds : Fun K "deeds" "Chip.deeds" s_Chip_deeds a_Chip_deeds fd_Chip_deeds
  bd_Chip_deeds : Binds K fd_Chip_deeds ["self"] []
  k_Chip_deeds : PySem.W.keepIn K (.ref a_Chip_deeds) = true
  a__law_cell_at : Addr
  fd__law_cell_at : FuncData
  F__law_cell_at : Fun K "_law_cell_at" "_law_cell_at" s__law_cell_at a__law_cell_at fd__law_cell_at
  bd__law_cell_at : Binds K fd__law_cell_at ["_law_script", "_law_k"] []
  k__law_cell_at : PySem.W.keepIn K (.ref a__law_cell_at) = true
  g__law_cell_at : mg "_law_cell_at" = some (.ref a__law_cell_at)
  a__law_whole : Addr
  fd__law_whole : FuncData
  F__law_whole : Fun K "_law_whole" "_law_whole" s__law_whole a__law_whole fd__law_whole
  bd__law_whole : Binds K fd__law_whole ["_law_found"] []
  k__law_whole : PySem.W.keepIn K (.ref a__law_whole) = true
  g__law_whole : mg "_law_whole" = some (.ref a__law_whole)
  a__law_mix : Addr
  fd__law_mix : FuncData
  F__law_mix : Fun K "_law_mix" "_law_mix" s__law_mix a__law_mix fd__law_mix
  bd__law_mix : Binds K fd__law_mix ["_law_cell", "_law_k"] []
  k__law_mix : PySem.W.keepIn K (.ref a__law_mix) = true
  g__law_mix : mg "_law_mix" = some (.ref a__law_mix)
  a__law_numbers : Addr
  fd__law_numbers : FuncData
  F__law_numbers : Fun K "_law_numbers" "_law_numbers" s__law_numbers a__law_numbers fd__law_numbers
  bd__law_numbers : Binds K fd__law_numbers ["_law_found", "_law_due_here"] []
  k__law_numbers : PySem.W.keepIn K (.ref a__law_numbers) = true
  g__law_numbers : mg "_law_numbers" = some (.ref a__law_numbers)
  a__law_pairs : Addr
  fd__law_pairs : FuncData
  F__law_pairs : Fun K "_law_pairs" "_law_pairs" s__law_pairs a__law_pairs fd__law_pairs
  bd__law_pairs : Binds K fd__law_pairs ["_law_found", "_law_due_here"] []
  k__law_pairs : PySem.W.keepIn K (.ref a__law_pairs) = true
  g__law_pairs : mg "_law_pairs" = some (.ref a__law_pairs)
  a__law_told : Addr
  fd__law_told : FuncData
  F__law_told : Fun K "_law_told" "_law_told" s__law_told a__law_told fd__law_told
  bd__law_told : Binds K fd__law_told ["_law_found", "_law_due_here"] []
  k__law_told : PySem.W.keepIn K (.ref a__law_told) = true
  g__law_told : mg "_law_told" = some (.ref a__law_told)
  a__law_due : Addr
  fd__law_due : FuncData
  F__law_due : Fun K "_law_due" "_law_due" s__law_due a__law_due fd__law_due
  bd__law_due : Binds K fd__law_due ["_law_rows", "_law_blocks", "_law_pages"] []
  k__law_due : PySem.W.keepIn K (.ref a__law_due) = true
  g__law_due : mg "_law_due" = some (.ref a__law_due)
  a__law_laid : Addr
  fd__law_laid : FuncData
  F__law_laid : Fun K "_law_laid" "_law_laid" s__law_laid a__law_laid fd__law_laid
  bd__law_laid : Binds K fd__law_laid ["_law_chip", "_law_script", "_law_pages", "_law_filled"] []
  k__law_laid : PySem.W.keepIn K (.ref a__law_laid) = true
  g__law_laid : mg "_law_laid" = some (.ref a__law_laid)
  a_law : Addr
  fd_law : FuncData
  F_law : Fun K "law" "law" s_law a_law fd_law
  bd_law : Binds K fd_law ["_law_script"] []
  k_law : PySem.W.keepIn K (.ref a_law) = true
  C_Book : Addr
  g_Book : mg "Book" = some (.ref C_Book)
  cl_Book : Cls K C_Book
  na_Book_blocks : NoAttr K C_Book "blocks"
  na_Book_pages : NoAttr K C_Book "pages"
  na_Book_where : NoAttr K C_Book "where"
  na_Book_names : NoAttr K C_Book "names"
  na_Book_live : NoAttr K C_Book "live"
  na_Book_filled : NoAttr K C_Book "filled"
  na_Book_born : NoAttr K C_Book "born"
  na_Book_stamp : NoAttr K C_Book "stamp"
  mk_Book : Mk K C_Book a_Book_init
  m_Book_start_at : Meth K C_Book "start_at" a_Book_start_at
  m_Book_mark : Meth K C_Book "mark" a_Book_mark
  m_Book_note : Meth K C_Book "note" a_Book_note
  m_Book_forget : Meth K C_Book "forget" a_Book_forget
  m_Book_held : Meth K C_Book "held" a_Book_held
  m_Book_tell : Meth K C_Book "tell" a_Book_tell
  C_Chip : Addr
  g_Chip : mg "Chip" = some (.ref C_Chip)
  cl_Chip : Cls K C_Chip
  na_Chip_blocks : NoAttr K C_Chip "blocks"
  na_Chip_pages : NoAttr K C_Chip "pages"
  na_Chip_most : NoAttr K C_Chip "most"
  na_Chip_lasts : NoAttr K C_Chip "lasts"
  na_Chip_stuff : NoAttr K C_Chip "stuff"
  na_Chip_tried : NoAttr K C_Chip "tried"
  na_Chip_clearings : NoAttr K C_Chip "clearings"
  na_Chip_broken : NoAttr K C_Chip "broken"
  na_Chip_left : NoAttr K C_Chip "left"
  na_Chip_log : NoAttr K C_Chip "log"
  mk_Chip : Mk K C_Chip a_Chip_init
  m_Chip_need_page : Meth K C_Chip "need_page" a_Chip_need_page
  m_Chip_need_block : Meth K C_Chip "need_block" a_Chip_need_block
  m_Chip_need_power : Meth K C_Chip "need_power" a_Chip_need_power
  m_Chip_need_good : Meth K C_Chip "need_good" a_Chip_need_good
  m_Chip_goes_well : Meth K C_Chip "goes_well" a_Chip_goes_well
  m_Chip_put : Meth K C_Chip "put" a_Chip_put
  m_Chip_read : Meth K C_Chip "read" a_Chip_read
  m_Chip_is_dark : Meth K C_Chip "is_dark" a_Chip_is_dark
  m_Chip_failed : Meth K C_Chip "failed" a_Chip_failed
  m_Chip_deeds : Meth K C_Chip "deeds" a_Chip_deeds
  C_WornError : Addr
  g_WornError : mg "WornError" = some (.ref C_WornError)
  xc_WornError : XC K C_WornError
  C_NoChip : Addr
  g_NoChip : mg "NoChip" = some (.ref C_NoChip)
  xc_NoChip : XC K C_NoChip
  C_NoPlace : Addr
  g_NoPlace : mg "NoPlace" = some (.ref C_NoPlace)
  xc_NoPlace : XC K C_NoPlace
  C_PowerGone : Addr
  g_PowerGone : mg "PowerGone" = some (.ref C_PowerGone)
  xc_PowerGone : XC K C_PowerGone
  C_BlockFailed : Addr
  g_BlockFailed : mg "BlockFailed" = some (.ref C_BlockFailed)
  xi_BlockFailed : XI K C_BlockFailed a_BlockFailed_init
  nx_BlockFailed_block : PySem.W.findIn K (.ref C_BlockFailed) "block" = some none
  C_NotClear : Addr
  g_NotClear : mg "NotClear" = some (.ref C_NotClear)
  xi_NotClear : XI K C_NotClear a_NotClear_init
  nx_NotClear_page : PySem.W.findIn K (.ref C_NotClear) "page" = some none
  wi_WornError : WInit K C_WornError
  b_len : mg "len" = none
  b_isinstance : mg "isinstance" = none
  b_min : mg "min" = none
  b_sorted : mg "sorted" = none
  b_int : mg "int" = none
  b_str : mg "str" = none
  b_list : mg "list" = none
  b_tuple : mg "tuple" = none
  b_bool : mg "bool" = none
  b_range : mg "range" = none
  b_zip : mg "zip" = none
  b_ValueError : mg "ValueError" = none
  u_ROLL : Value
  g_ROLL : mg "ROLL" = some u_ROLL
  r_ROLL : RelV (V.int (64)) u_ROLL
  u_MANY : Value
  g_MANY : mg "MANY" = some u_MANY
  r_MANY : RelV (V.int (16)) u_MANY
  u_MOST : Value
  g_MOST : mg "MOST" = some u_MOST
  r_MOST : RelV (V.int (1000000)) u_MOST
local macro_rules | `(tactic| walk_at "cls") => `(tactic| first | assumption | exact (show Txt _ _ by assumption).cl_Book | exact (show Txt _ _ by assumption).cl_Chip)
local macro_rules | `(tactic| walk_at "na") => `(tactic| first | assumption | exact (show Txt _ _ by assumption).na_Book_blocks | exact (show Txt _ _ by assumption).na_Book_pages | exact (show Txt _ _ by assumption).na_Book_where | exact (show Txt _ _ by assumption).na_Book_names | exact (show Txt _ _ by assumption).na_Book_live | exact (show Txt _ _ by assumption).na_Book_filled | exact (show Txt _ _ by assumption).na_Book_born | exact (show Txt _ _ by assumption).na_Book_stamp | exact (show Txt _ _ by assumption).na_Chip_blocks | exact (show Txt _ _ by assumption).na_Chip_pages | exact (show Txt _ _ by assumption).na_Chip_most | exact (show Txt _ _ by assumption).na_Chip_lasts | exact (show Txt _ _ by assumption).na_Chip_stuff | exact (show Txt _ _ by assumption).na_Chip_tried | exact (show Txt _ _ by assumption).na_Chip_clearings | exact (show Txt _ _ by assumption).na_Chip_broken | exact (show Txt _ _ by assumption).na_Chip_left | exact (show Txt _ _ by assumption).na_Chip_log)

section
variable {P : Program} {w : World} {K : PySem.W.Frag} {mg : Str → Option Value} {base : Heap}
abbrev FO (P : Program) (w : World) (K : PySem.W.Frag) (mg : Str → Option Value) (base : Heap) := FnOk P w K mg base (L2.CX P w)
/-! ### the law's reader -/
def cl (ns : List Int) (k : Int) : Int := ns.getD k.toNat 0
def spCell (K : PySem.W.Frag) : Sp := fun vs H Q _ => ∃ (a : Addr) (ns : List Int) (k : Int), vs = [.ref a, .int k] ∧ SqL K H a (ns.map V.int) ∧ 0 ≤ k ∧ Q (.int (cl ns k)) H
theorem ok_cell_at (T : Txt K mg) : FO P w K mg base 1 T.a__law_cell_at T.fd__law_cell_at ["_law_script", "_law_k"] (spCell K) := by
  have sc := sc__law_cell_at
  refine T.F__law_cell_at.okX sc (fun vs H Q E h => ?_) (fun cdv A outer s H vs Q E hr h => ?_)
  · obtain ⟨a, ns, k, rfl, _⟩ := h
    rfl
  · obtain ⟨a, ns, k, rfl, hS, h0, q⟩ := h
    refine ⟨_, (pss_cons (ps_if (pt_cmpR op_uLt (pv 1) (pe_callB (cr_ulen) (by rfl) T.b_len bt_len (pa_cons (pv 0) pa_nil)) (nomark _)) (pss_one (ps_ret (pe_ix ix_seq (pv 0) (pv 1) (fun _ _ => rfl)))) pss_nil)
      (pss_one (ps_ret pe_int))), ?_⟩
    walk_at "begin"
    walk_at "if"
    refine x_iteD (fun h => ?_) (fun h => ?_)
    · walk_at "go"
      exact q
    · walk_at "go"
      have e : cl ns k = 0 := by
        unfold cl
        rw [List.getD_eq_getElem?_getD, List.getElem?_eq_none (by omega)]
        rfl
      rw [e] at q
      exact q

theorem x_cell {H : Hp} {Q : VK} {E : XK} {a : Addr} {ns : List Int} {k : Int} (h : SqL K H a (ns.map V.int)) (q : Q (.int (cl ns k)) H) (h0 : 0 ≤ k) : spCell K [.ref a, .int k] H Q E := ⟨a, ns, k, rfl, h, h0, q⟩
local macro_rules | `(tactic| walk_at "u") => `(tactic| ((with_reducible refine' x_cell ?hq ?_ ?h0); (case hq => walk_at "sq"); (try (case h0 => walk_at "side"))))

/-- a value that is no whole number, of a kind that is met here -/
def NotI (K : PySem.W.Frag) (H : Hp) (v : V) : Prop := v = .non ∨ (∃ b, v = .bl b) ∨ (∃ s, v = .str s) ∨ ∃ p, v = .ref p ∧ (TyX K H v (.type "list") ∨ TyX K H v (.type "tuple"))

def spLWhole (K : PySem.W.Frag) : Sp := fun vs H Q _ => ∃ v, vs = [v] ∧ ((∃ n, v = .int n ∧ Q (.bl true) H) ∨ (NotI K H v ∧ Q (.bl false) H))
theorem x_lwhole {H : Hp} {Q : VK} {E : XK} {n : Int} (q : Q (.bl true) H) : spLWhole K [.int n] H Q E := ⟨_, rfl, .inl ⟨n, rfl, q⟩⟩
theorem x_lwholeN {H : Hp} {Q : VK} {E : XK} {v : V} (h : NotI K H v) (q : Q (.bl false) H) : spLWhole K [v] H Q E := ⟨_, rfl, .inr ⟨h, q⟩⟩
local macro_rules | `(tactic| walk_at "u") => `(tactic| first | (with_reducible refine x_lwhole ?_) | (with_reducible refine x_lwholeN (by assumption) ?_))
theorem ok_whole (T : Txt K mg) : FO P w K mg base 1 T.a__law_whole T.fd__law_whole ["_law_found"] (spLWhole K) := by
  have sc := sc__law_whole
  refine T.F__law_whole.okX sc (fun vs H Q E h => ?_) (fun cdv A outer s H vs Q E hr h => ?_)
  · obtain ⟨v, rfl, _⟩ := h
    rfl
  · obtain ⟨v, rfl, h⟩ := h
    refine ⟨_, (pss_one (ps_ret (pe_andT (pe_callB (cr_uisinstance) (by rfl) T.b_isinstance bt_isinstance (pa_cons (pv 0) (pa_cons (pe_bltn (v := .ty "int") (by rfl) T.b_int bt_int rfl) pa_nil))) (pe_one (pe_notT (pe_callB (cr_uisinstance) (by rfl) T.b_isinstance bt_isinstance (pa_cons (pv 0) (pa_cons (pe_bltn (v := .ty "bool") (by rfl) T.b_bool bt_bool rfl) pa_nil)))))))), ?_⟩
    walk_at "begin"
    walk_at "go"
    rcases h with ⟨n, rfl, q⟩ | ⟨h, q⟩
    · walk_at "go"
      exact q
    · rcases h with rfl | ⟨b, rfl⟩ | ⟨z, rfl⟩ | ⟨p, rfl, h⟩
      · walk_at "go"
        exact q
      · walk_at "go"
        exact q
      · walk_at "go"
        exact q
      · rcases h with h | h
        · refine x_isiR h (b := false) (by decide +kernel) ?_
          walk_at "go"
          exact q
        · refine x_isiR h (b := false) (by decide +kernel) ?_
          walk_at "go"
          exact q

/-! ### whole numbers -/
def spWhole (K : PySem.W.Frag) : Sp := fun vs H Q _ => ∃ v, vs = [v] ∧ ((∃ n, v = .int n ∧ Q (.bl true) H) ∨ (NotI K H v ∧ Q (.bl false) H))
theorem x_whole {H : Hp} {Q : VK} {E : XK} {n : Int} (q : Q (.bl true) H) : spWhole K [.int n] H Q E := ⟨_, rfl, .inl ⟨n, rfl, q⟩⟩
theorem x_wholeN {H : Hp} {Q : VK} {E : XK} {v : V} (h : NotI K H v) (q : Q (.bl false) H) : spWhole K [v] H Q E := ⟨_, rfl, .inr ⟨h, q⟩⟩
local macro_rules | `(tactic| walk_at "u") => `(tactic| first | (with_reducible refine x_whole ?_) | (with_reducible refine x_wholeN (by assumption) ?_))
theorem ok_is_whole (T : Txt K mg) : FO P w K mg base 1 T.a_is_whole T.fd_is_whole ["thing"] (spWhole K) := by
  have sc := sc_is_whole
  refine T.F_is_whole.okX sc (fun vs H Q E h => ?_) (fun cdv A outer s H vs Q E hr h => ?_)
  · obtain ⟨v, rfl, _⟩ := h
    rfl
  · obtain ⟨v, rfl, h⟩ := h
    refine ⟨_, (pss_one (ps_ret (pe_andT (pe_callB (cr_uisinstance) (by rfl) T.b_isinstance bt_isinstance (pa_cons (pv 0) (pa_cons (pe_bltn (v := .ty "int") (by rfl) T.b_int bt_int rfl) pa_nil))) (pe_one (pe_notT (pe_callB (cr_uisinstance) (by rfl) T.b_isinstance bt_isinstance (pa_cons (pv 0) (pa_cons (pe_bltn (v := .ty "bool") (by rfl) T.b_bool bt_bool rfl) pa_nil)))))))), ?_⟩
    walk_at "begin"
    walk_at "go"
    rcases h with ⟨n, rfl, q⟩ | ⟨h, q⟩
    · walk_at "go"
      exact q
    · rcases h with rfl | ⟨b, rfl⟩ | ⟨z, rfl⟩ | ⟨p, rfl, h⟩
      · walk_at "go"
        exact q
      · walk_at "go"
        exact q
      · walk_at "go"
        exact q
      · rcases h with h | h
        · refine x_isiR h (b := false) (by decide +kernel) ?_
          walk_at "go"
          exact q
        · refine x_isiR h (b := false) (by decide +kernel) ?_
          walk_at "go"
          exact q
def spWithin (K : PySem.W.Frag) : Sp := fun vs H Q _ => ∃ v lo hi, vs = [v, .int lo, .int hi] ∧ ((∃ n, v = .int n ∧ Q (.bl (decide (lo ≤ n ∧ n ≤ hi))) H) ∨ (NotI K H v ∧ Q (.bl false) H))
theorem x_within {H : Hp} {Q : VK} {E : XK} {n lo hi : Int} (q : Q (.bl (decide (lo ≤ n ∧ n ≤ hi))) H) : spWithin K [.int n, .int lo, .int hi] H Q E := ⟨_, _, _, rfl, .inl ⟨n, rfl, q⟩⟩
theorem x_withinN {H : Hp} {Q : VK} {E : XK} {v : V} {lo hi : Int} (h : NotI K H v) (q : Q (.bl false) H) : spWithin K [v, .int lo, .int hi] H Q E := ⟨_, _, _, rfl, .inr ⟨h, q⟩⟩
local macro_rules | `(tactic| walk_at "u") => `(tactic| first | (with_reducible refine x_within ?_) | (with_reducible refine x_withinN (by assumption) ?_))
theorem ok_is_within (T : Txt K mg) : FO P w K mg base 2 T.a_is_within T.fd_is_within ["thing", "low", "high"] (spWithin K) := by
  have sc := sc_is_within
  refine T.F_is_within.okX sc (fun vs H Q E h => ?_) (fun cdv A outer s H vs Q E hr h => ?_)
  · obtain ⟨v, lo, hi, rfl, _⟩ := h
    rfl
  · obtain ⟨v, lo, hi, rfl, h⟩ := h
    refine ⟨_, (pss_one (ps_ret (pe_andT (pe_callS (ok_is_whole T) (hr.mono (by decide)) (by rfl) T.g_is_whole T.k_is_whole T.bd_is_whole (passAt (takes_of rfl rfl rfl rfl)) (pa_cons (pv 0) pa_nil)) (pe_one (pe_chain op_le op_le (pv 1) (pv 0) (pv 2)))))), ?_⟩
    walk_at "begin"
    walk_at "go"
    rcases h with ⟨n, rfl, q⟩ | ⟨h, q⟩
    · walk_at "go"
      refine x_iteD (fun h => ?_) (fun h => ?_)
      · walk_at "go"
        have e : decide (n ≤ hi) = decide (lo ≤ n ∧ n ≤ hi) := by simp [h]
        rw [e]
        exact q
      · walk_at "go"
        have e : false = decide (lo ≤ n ∧ n ≤ hi) := by simp [h]
        rw [← e] at q
        exact q
    · walk_at "go"
      exact q


/-! ### values that may be numbers -/
def NotS (v : V) : Prop := v = .non ∨ (∃ b, v = .bl b) ∨ ∃ s, v = .str s
theorem NotS.to {H : Hp} {v : V} (h : NotS v) : NotI K H v := by
  rcases h with h | h | h
  · exact .inl h
  · exact .inr (.inl h)
  · exact .inr (.inr (.inl h))
inductive Num : V → Option Int → Prop
  | int (n : Int) : Num (.int n) (some n)
  | no (v : V) : NotS v → Num v none
def inB (o : Option Int) (lo hi : Int) : Bool := match o with
  | some n => decide (lo ≤ n ∧ n ≤ hi)
  | none => false
theorem x_wNum {H : Hp} {Q : VK} {E : XK} {v : V} {o : Option Int} {lo hi : Int} (h : Num v o) (q : Q (.bl (inB o lo hi)) H) : spWithin K [v, .int lo, .int hi] H Q E := by
  cases h with
  | int n => exact ⟨_, _, _, rfl, .inl ⟨n, rfl, q⟩⟩
  | no v h => exact ⟨_, _, _, rfl, .inr ⟨h.to, q⟩⟩
theorem Num.of_inB {v : V} {o : Option Int} {lo hi : Int} (h : Num v o) (e : inB o lo hi = true) : ∃ n, v = .int n ∧ o = some n ∧ lo ≤ n ∧ n ≤ hi := by
  cases h with
  | int n => exact ⟨n, rfl, rfl, of_decide_eq_true e⟩
  | no v h => cases e

/-! ### pairs of numbers as data -/
def prD (e : Int × Int) : PyData := .tuple [.int e.1, .int e.2]
theorem prD_sh {k : Nat} (e : Int × Int) : Sh (k + 1) (prD e) := Sh.tup fun d h => by
  simp only [List.mem_cons, List.not_mem_nil, or_false] at h
  rcases h with rfl | rfl <;> exact Sh.int
theorem _root_.Kit.PairL.dp {K : PySem.W.Frag} {H : Hp} {q : Addr} {ws : List V} {is : List (Int × Int)} (h : PairL H ws is) (hq : H q = some (.lst ws)) : Dp K H (.ref q) (.list (is.map prD)) := by
  refine .lst (SqL.of hq) (dpAll_of (by rw [List.length_map]; exact h.1) fun i v d h1 h2 => ?_)
  rw [List.getElem?_map] at h2
  cases e : is[i]? with
  | none => rw [e] at h2; simp at h2
  | some t =>
    rw [e] at h2
    simp at h2
    subst h2
    obtain ⟨a, rfl, ha⟩ := h.2 i v t h1 e
    exact .tup (SqT.of ha) (.cons (.int _) (.cons (.int _) .nil))
theorem prsSh {k : Nat} {is : List (Int × Int)} : Sh (k + 2) (.list (is.map prD)) := Sh.list (k := k + 1) fun d h => by
  obtain ⟨e, _, rfl⟩ := List.mem_map.mp h
  exact prD_sh e

/-! ### the chip -/
structure Cs where
  b : Int
  p : Int
  m : Int
  lasts : List V
  stuff : List V
  tried : List Int
  clr : List Int
  broken : List Bool
  left : Option Int
  log : List (Str × Int × Bool)
structure CF where
  dx : Addr
  la : Addr
  st : Addr
  tr : Addr
  cl : Addr
  br : Addr
  lg : Addr
def lv : Option Int → V
  | none => .non
  | some n => .int n
def chipF (F : CF) (c : Cs) : List (Str × V) := [("blocks", .int c.b), ("pages", .int c.p), ("most", .int c.m), ("lasts", .ref F.la), ("stuff", .ref F.st), ("tried", .ref F.tr), ("clearings", .ref F.cl), ("broken", .ref F.br), ("left", lv c.left), ("log", .ref F.lg)]
def LogAt (H : Hp) (v : V) (e : Str × Int × Bool) : Prop := ∃ a, v = .ref a ∧ H a = some (.tup [.str e.1, .int e.2.1, .bl e.2.2])
def LogAll (H : Hp) (vs : List V) (es : List (Str × Int × Bool)) : Prop := vs.length = es.length ∧ ∀ (i : Nat) v e, vs[i]? = some v → es[i]? = some e → LogAt H v e
structure Sizes (c : Cs) : Prop where
  b : 2 ≤ c.b ∧ c.b ≤ 16
  p : 1 ≤ c.p ∧ c.p ≤ 16
  m : 0 ≤ c.m ∧ c.m ≤ 1000000
  lasts : (c.lasts.length : Int) = c.b
  stuff : (c.stuff.length : Int) = c.b * c.p
  tried : (c.tried.length : Int) = c.b
  clr : (c.clr.length : Int) = c.b
  broken : (c.broken.length : Int) = c.b
  lsc : ∀ x ∈ c.lasts, x = .non ∨ ∃ n : Int, x = .int n
def CF.all (F : CF) (r : Addr) : List Addr := [r, F.la, F.st, F.tr, F.cl, F.br, F.lg]
structure ChipAt (C : Addr) (H : Hp) (r : Addr) (F : CF) (c : Cs) : Prop where
  obj : H r = some (.ins C F.dx (chipF F c))
  la : H F.la = some (.lst c.lasts)
  st : H F.st = some (.lst c.stuff)
  tr : H F.tr = some (.lst (c.tried.map V.int))
  cl : H F.cl = some (.lst (c.clr.map V.int))
  br : H F.br = some (.lst (c.broken.map V.bl))
  lg : ∃ vs, H F.lg = some (.lst vs) ∧ LogAll H vs c.log
  nd : (CF.all F r).Nodup
  sz : Sizes c
theorem LogAll.mono {H H' : Hp} {vs : List V} {es : List (Str × Int × Bool)} (s : TupS H H') (h : LogAll H vs es) : LogAll H' vs es := ⟨h.1, fun i v e h1 h2 => by
  obtain ⟨a, q, h⟩ := h.2 i v e h1 h2
  exact ⟨a, q, s _ _ h⟩⟩
theorem ChipAt.mono {C : Addr} {H H' : Hp} {r : Addr} {F : CF} {c : Cs} (s : Same H H') (h : ChipAt C H r F c) : ChipAt C H' r F c := by
  obtain ⟨vs, e, l⟩ := h.lg
  exact ⟨s _ _ h.obj, s _ _ h.la, s _ _ h.st, s _ _ h.tr, s _ _ h.cl, s _ _ h.br, ⟨vs, s _ _ e, l.mono (TupS.of s)⟩, h.nd, h.sz⟩
/-- the addresses of a chip are unlike -/
theorem ChipAt.ne {C : Addr} {H : Hp} {r : Addr} {F : CF} {c : Cs} (h : ChipAt C H r F c) : (r ≠ F.la ∧ r ≠ F.st ∧ r ≠ F.tr ∧ r ≠ F.cl ∧ r ≠ F.br ∧ r ≠ F.lg) ∧ (F.la ≠ F.st ∧ F.la ≠ F.tr ∧ F.la ≠ F.cl ∧ F.la ≠ F.br ∧ F.la ≠ F.lg) ∧ (F.st ≠ F.tr ∧ F.st ≠ F.cl ∧ F.st ≠ F.br ∧ F.st ≠ F.lg) ∧ (F.tr ≠ F.cl ∧ F.tr ≠ F.br ∧ F.tr ≠ F.lg) ∧ (F.cl ≠ F.br ∧ F.cl ≠ F.lg) ∧ F.br ≠ F.lg := by
  have d := h.nd
  unfold CF.all at d
  simp only [List.nodup_cons, List.mem_cons, List.not_mem_nil, or_false, not_or, not_false_eq_true, List.nodup_nil, and_true] at d
  exact ⟨d.1, d.2.1, d.2.2.1, d.2.2.2.1, d.2.2.2.2.1, d.2.2.2.2.2⟩
/-- tuples stay where a chip changes -/
theorem ChipAt.tups {C : Addr} {H H' : Hp} {r : Addr} {F : CF} {c : Cs} (h : ChipAt C H r F c) (s : Off (F.all r) H H') : TupS H H' := fun a xs e => by
  refine s a _ (fun m => ?_) e
  obtain ⟨vs, e7, _⟩ := h.lg
  unfold CF.all at m
  simp only [List.mem_cons, List.not_mem_nil, or_false] at m
  rcases m with rfl | rfl | rfl | rfl | rfl | rfl | rfl
  · rw [h.obj] at e; cases e
  · rw [h.la] at e; cases e
  · rw [h.st] at e; cases e
  · rw [h.tr] at e; cases e
  · rw [h.cl] at e; cases e
  · rw [h.br] at e; cases e
  · rw [e7] at e; cases e
theorem ChipAt.off {C : Addr} {H H' : Hp} {r : Addr} {F : CF} {c : Cs} {S : List Addr} (h : ChipAt C H r F c) (s : Off S H H') (n : ∀ a, a ∈ F.all r → a ∉ S) (ht : TupS H H') : ChipAt C H' r F c := by
  obtain ⟨vs, e, l⟩ := h.lg
  unfold CF.all at n
  exact ⟨s.at h.obj (n _ (by simp)), s.at h.la (n _ (by simp)), s.at h.st (n _ (by simp)), s.at h.tr (n _ (by simp)), s.at h.cl (n _ (by simp)), s.at h.br (n _ (by simp)), ⟨vs, s.at e (n _ (by simp)), l.mono ht⟩, h.nd, h.sz⟩
/-- a list that is another one's changes: tuples stay -/
theorem _root_.Kit.Off.tupsL {a : Addr} {H H' : Hp} {xs : List V} (s : Off [a] H H') (h : H a = some (.lst xs)) : TupS H H' := fun b ys e => s b _ (fun m => by rw [List.mem_singleton.mp m, h] at e; cases e) e
def Cs.dark (c : Cs) : Bool := decide (c.left = some 0)
/-- how an asking ends -/
inductive Res
  | ok
  | place
  | dark
  | failed (b : Int)
  | clear (n : Int)
  | value
def spDark (C : Addr) : Sp := fun vs H Q _ => ∃ r F c, vs = [.ref r] ∧ ChipAt C H r F c ∧ Q (.bl c.dark) H
theorem lv_eq0 {o : Option Int} : decide (lv o = .int 0) = decide (o = some 0) := by
  cases o with
  | none => rfl
  | some n => rw [decide_eq_decide]; simp [lv]
theorem lv_scal {o : Option Int} {n : Int} : scal (lv o) (.int n) = true := by cases o <;> rfl
theorem ok_Chip_is_dark (T : Txt K mg) : FO P w K mg base 1 T.a_Chip_is_dark T.fd_Chip_is_dark ["self"] (spDark T.C_Chip) := by
  have sc := sc_Chip_is_dark
  refine T.F_Chip_is_dark.okX sc (fun vs H Q E h => ?_) (fun cdv A outer s H vs Q E hr h => ?_)
  · obtain ⟨_, _, _, rfl, _⟩ := h
    rfl
  · obtain ⟨r, F, c, rfl, hC, q⟩ := h
    refine ⟨_, (pss_one (ps_ret (pe_cmpR (op_uEq hr.units) (pe_fld (pv 0) rfl) pe_int (nomark _)))), ?_⟩
    have o := hC.obj
    unfold chipF at o
    walk_at "begin"
    walk_at "go"
    refine x_eqSc lv_scal ?_
    rw [lv_eq0]
    exact q
theorem MO_dark (T : Txt K mg) : MO P w K mg base (L2.CX P w) 1 T.C_Chip "is_dark" (spDark T.C_Chip) := ⟨⟨_, _, _, T.cl_Chip, T.m_Chip_is_dark, ok_Chip_is_dark T, T.bd_Chip_is_dark⟩⟩
theorem x_mDark {T : Txt K mg} {H : Hp} {Q : VK} {E : XK} {σ : L2.St} {r : Addr} {F : CF} {c : Cs} (hC : ChipAt T.C_Chip H r F c) (q : Q (.bl c.dark) H) : mtK P w K mg base (L2.CX P w) 1 "is_dark" E σ tNil Q (.ref r) H :=
  x_mtK hC.obj (MO_dark T) rfl ⟨r, F, c, rfl, hC, q⟩
def spPower (T : Txt K mg) : Sp := fun vs H Q E => ∃ r F c, vs = [.ref r] ∧ ChipAt T.C_Chip H r F c ∧ (c.dark = false → Q .non H) ∧ (c.dark = true → E (.ref T.C_PowerGone) none H)
theorem ok_Chip_need_power (T : Txt K mg) : FO P w K mg base 2 T.a_Chip_need_power T.fd_Chip_need_power ["self"] (spPower T) := by
  have sc := sc_Chip_need_power
  refine T.F_Chip_need_power.okX sc (fun vs H Q E h => ?_) (fun cdv A outer s H vs Q E hr h => ?_)
  · obtain ⟨_, _, _, rfl, _⟩ := h
    rfl
  · obtain ⟨r, F, c, rfl, hC, q1, q2⟩ := h
    refine ⟨_, (pss_one (ps_if (pt_truth (pe_methD0 (k := 1) (pv 0) (hr.mono (by decide)) (passAt (takes_of rfl rfl rfl rfl))) (by intro _; rfl)) (pss_one (ps_raiseK rfl (takes_of rfl rfl rfl rfl) (pmk_ownK T.xc_PowerGone T.g_PowerGone rfl))) pss_nil)), ?_⟩
    walk_at "begin"
    walk_at "go"
    refine x_mDark hC ?_
    walk_at "go"
    refine x_iteB (fun h => ?_) (fun h => ?_)
    · walk_at "go"
      exact q2 h
    · walk_at "go"
      exact q1 h
theorem x_mPower {T : Txt K mg} {H : Hp} {Q : VK} {E : XK} {σ : L2.St} {r : Addr} {F : CF} {c : Cs} (hC : ChipAt T.C_Chip H r F c) (q1 : c.dark = false → Q .non H) (q2 : c.dark = true → E (.ref T.C_PowerGone) none H) : mtK P w K mg base (L2.CX P w) 2 "need_power" E σ tNil Q (.ref r) H :=
  x_mtK hC.obj ⟨⟨_, _, _, T.cl_Chip, T.m_Chip_need_power, ok_Chip_need_power T, T.bd_Chip_need_power⟩⟩ rfl ⟨r, F, c, rfl, hC, q1, q2⟩
def spPage (T : Txt K mg) : Sp := fun vs H Q E => ∃ r F c v o, vs = [.ref r, v] ∧ ChipAt T.C_Chip H r F c ∧ Num v o ∧ (inB o 0 (c.b * c.p - 1) = true → Q .non H) ∧ (inB o 0 (c.b * c.p - 1) = false → E (.ref T.C_NoPlace) none H)
theorem ok_Chip_need_page (T : Txt K mg) : FO P w K mg base 3 T.a_Chip_need_page T.fd_Chip_need_page ["self", "page"] (spPage T) := by
  have sc := sc_Chip_need_page
  refine T.F_Chip_need_page.okX sc (fun vs H Q E h => ?_) (fun cdv A outer s H vs Q E hr h => ?_)
  · obtain ⟨_, _, _, _, _, rfl, _⟩ := h
    rfl
  · obtain ⟨r, F, c, v, o, rfl, hC, hn, q1, q2⟩ := h
    refine ⟨_, (pss_one (ps_if (pt_not (pt_truth (pe_callS (ok_is_within T) (hr.mono (by decide)) (by rfl) T.g_is_within T.k_is_within T.bd_is_within (passAt (takes_of rfl rfl rfl rfl)) (pa_cons (pv 1) (pa_cons pe_int (pa_cons (pe_op op_sub (pe_callB (cr_ulen) (by rfl) T.b_len bt_len (pa_cons (pe_fld (pv 0) rfl) pa_nil)) pe_int) pa_nil)))) (by intro _; rfl))) (pss_one (ps_raiseK rfl (takes_of rfl rfl rfl rfl) (pmk_ownK T.xc_NoPlace T.g_NoPlace rfl))) pss_nil)), ?_⟩
    have ho := hC.obj
    have hst := hC.st
    have hsz := hC.sz.stuff
    unfold chipF at ho
    walk_at "begin"
    walk_at "go"
    rw [hsz]
    refine x_wNum hn ?_
    walk_at "go"
    refine x_iteB (fun h => ?_) (fun h => ?_)
    · walk_at "go"
      exact q1 h
    · walk_at "go"
      exact q2 h

theorem x_mPage {T : Txt K mg} {H : Hp} {Q : VK} {E : XK} {σ : L2.St} {r : Addr} {F : CF} {c : Cs} {t : TA} (hC : ChipAt T.C_Chip H r F c) (h : t σ H fun vs H2 => spPage T (.ref r :: vs) H2 Q E) : mtK P w K mg base (L2.CX P w) 3 "need_page" E σ t Q (.ref r) H :=
  x_mtK hC.obj ⟨⟨_, _, _, T.cl_Chip, T.m_Chip_need_page, ok_Chip_need_page T, T.bd_Chip_need_page⟩⟩ rfl h
theorem x_page {T : Txt K mg} {H : Hp} {Q : VK} {E : XK} {r : Addr} {F : CF} {c : Cs} {v : V} {o : Option Int} (hC : ChipAt T.C_Chip H r F c) (hn : Num v o) (q1 : inB o 0 (c.b * c.p - 1) = true → Q .non H) (q2 : inB o 0 (c.b * c.p - 1) = false → E (.ref T.C_NoPlace) none H) : spPage T [.ref r, v] H Q E := ⟨r, F, c, v, o, rfl, hC, hn, q1, q2⟩
def spBlock (T : Txt K mg) : Sp := fun vs H Q E => ∃ r F c v o, vs = [.ref r, v] ∧ ChipAt T.C_Chip H r F c ∧ Num v o ∧ (inB o 0 (c.b - 1) = true → Q .non H) ∧ (inB o 0 (c.b - 1) = false → E (.ref T.C_NoPlace) none H)
theorem ok_Chip_need_block (T : Txt K mg) : FO P w K mg base 3 T.a_Chip_need_block T.fd_Chip_need_block ["self", "block"] (spBlock T) := by
  have sc := sc_Chip_need_block
  refine T.F_Chip_need_block.okX sc (fun vs H Q E h => ?_) (fun cdv A outer s H vs Q E hr h => ?_)
  · obtain ⟨_, _, _, _, _, rfl, _⟩ := h
    rfl
  · obtain ⟨r, F, c, v, o, rfl, hC, hn, q1, q2⟩ := h
    refine ⟨_, (pss_one (ps_if (pt_not (pt_truth (pe_callS (ok_is_within T) (hr.mono (by decide)) (by rfl) T.g_is_within T.k_is_within T.bd_is_within (passAt (takes_of rfl rfl rfl rfl)) (pa_cons (pv 1) (pa_cons pe_int (pa_cons (pe_op op_sub (pe_fld (pv 0) rfl) pe_int) pa_nil)))) (by intro _; rfl))) (pss_one (ps_raiseK rfl (takes_of rfl rfl rfl rfl) (pmk_ownK T.xc_NoPlace T.g_NoPlace rfl))) pss_nil)), ?_⟩
    have ho := hC.obj
    unfold chipF at ho
    walk_at "begin"
    walk_at "go"
    refine x_wNum hn ?_
    walk_at "go"
    refine x_iteB (fun h => ?_) (fun h => ?_)
    · walk_at "go"
      exact q1 h
    · walk_at "go"
      exact q2 h
theorem x_mBlock {T : Txt K mg} {H : Hp} {Q : VK} {E : XK} {σ : L2.St} {r : Addr} {F : CF} {c : Cs} {t : TA} (hC : ChipAt T.C_Chip H r F c) (h : t σ H fun vs H2 => spBlock T (.ref r :: vs) H2 Q E) : mtK P w K mg base (L2.CX P w) 3 "need_block" E σ t Q (.ref r) H :=
  x_mtK hC.obj ⟨⟨_, _, _, T.cl_Chip, T.m_Chip_need_block, ok_Chip_need_block T, T.bd_Chip_need_block⟩⟩ rfl h
theorem x_block {T : Txt K mg} {H : Hp} {Q : VK} {E : XK} {r : Addr} {F : CF} {c : Cs} {v : V} {o : Option Int} (hC : ChipAt T.C_Chip H r F c) (hn : Num v o) (q1 : inB o 0 (c.b - 1) = true → Q .non H) (q2 : inB o 0 (c.b - 1) = false → E (.ref T.C_NoPlace) none H) : spBlock T [.ref r, v] H Q E := ⟨r, F, c, v, o, rfl, hC, hn, q1, q2⟩
/-! the refusals with a field -/
def SmallI (v : V) : Prop := ∃ n : Int, v = .int n ∧ 0 ≤ n ∧ n < 300
theorem ok_BlockFailed_init (T : Txt K mg) : FO P w K mg base 1 T.a_BlockFailed_init T.fd_BlockFailed_init ["self", "block"] (spXInit K T.C_BlockFailed "block" SmallI) := by
  have sc := sc_BlockFailed_init
  refine T.F_BlockFailed_init.okX sc (fun vs H Q E h => ?_) (fun cdv A outer s H vs Q E hr h => ?_)
  · obtain ⟨_, _, rfl, _⟩ := h
    rfl
  · obtain ⟨a, v, rfl, ⟨n, rfl, h0, h1⟩, o, hn, ha, q⟩ := h
    refine ⟨_, (pss_cons (ps_expr (pe_weinit T.wi_WornError rfl T.g_WornError (pa_cons (pv 0) (pa_cons (pe_op op_uAdd (pe_op op_uAdd pe_str (pe_callTy ct_str (by rfl) T.b_str bt_str (pa_cons (pv 1) pa_nil))) pe_str) pa_nil))))
      (pss_one (ps_ost (pv 0) (pv 1)))), ?_⟩
    have hlog := small_log h0 (by omega : n < 1000000)
    have hlen := str_len h0 h1
    have z1 : (Str.ofString "block ").length + (Str.ofString (toString n)).length ≤ sizeLine := line_len (by
      have e1 : (Str.ofString "block ").length = 6 := by decide
      omega)
    have z2 : (Str.ofString "block " ++ Str.ofString (toString n)).length + (Str.ofString " failed").length ≤ sizeLine := line_len (by
      have e1 : (Str.ofString "block ").length = 6 := by decide
      have e2 : (Str.ofString " failed").length = 7 := by decide
      have e3 : (Str.ofString "block " ++ Str.ofString (toString n)).length = (Str.ofString "block ").length + (Str.ofString (toString n)).length := PySem.Str.length_append _ _
      omega)
    walk_at "begin"
    walk_at "go"
    refine x_veK o ha ?_ (Nat.le_of_ble_eq_true rfl)
    dsimp only
    refine x_ost ?_
    walk_at "go"
    exact ⟨a, _, rfl, o, hn, .inl ⟨ha, q⟩⟩
theorem ok_NotClear_init (T : Txt K mg) : FO P w K mg base 1 T.a_NotClear_init T.fd_NotClear_init ["self", "page"] (spXInit K T.C_NotClear "page" SmallI) := by
  have sc := sc_NotClear_init
  refine T.F_NotClear_init.okX sc (fun vs H Q E h => ?_) (fun cdv A outer s H vs Q E hr h => ?_)
  · obtain ⟨_, _, rfl, _⟩ := h
    rfl
  · obtain ⟨a, v, rfl, ⟨n, rfl, h0, h1⟩, o, hn, ha, q⟩ := h
    refine ⟨_, (pss_cons (ps_expr (pe_weinit T.wi_WornError rfl T.g_WornError (pa_cons (pv 0) (pa_cons (pe_op op_uAdd (pe_op op_uAdd pe_str (pe_callTy ct_str (by rfl) T.b_str bt_str (pa_cons (pv 1) pa_nil))) pe_str) pa_nil))))
      (pss_one (ps_ost (pv 0) (pv 1)))), ?_⟩
    have hlog := small_log h0 (by omega : n < 1000000)
    have hlen := str_len h0 h1
    have z1 : (Str.ofString "page ").length + (Str.ofString (toString n)).length ≤ sizeLine := line_len (by
      have e1 : (Str.ofString "page ").length = 5 := by decide
      omega)
    have z2 : (Str.ofString "page " ++ Str.ofString (toString n)).length + (Str.ofString " is not clear").length ≤ sizeLine := line_len (by
      have e1 : (Str.ofString "page ").length = 5 := by decide
      have e2 : (Str.ofString " is not clear").length = 13 := by decide
      have e3 : (Str.ofString "page " ++ Str.ofString (toString n)).length = (Str.ofString "page ").length + (Str.ofString (toString n)).length := PySem.Str.length_append _ _
      omega)
    walk_at "begin"
    walk_at "go"
    refine x_veK o ha ?_ (Nat.le_of_ble_eq_true rfl)
    dsimp only
    refine x_ost ?_
    walk_at "go"
    exact ⟨a, _, rfl, o, hn, .inl ⟨ha, q⟩⟩
def spGoodB (T : Txt K mg) : Sp := fun vs H Q E => ∃ (r : Addr) (F : CF) (c : Cs) (n : Int), vs = [.ref r, .int n] ∧ ChipAt T.C_Chip H r F c ∧ 0 ≤ n ∧ n < c.b ∧ (c.broken.getD n.toNat false = false → Q .non H) ∧
  (c.broken.getD n.toNat false = true → ∀ d H1, Same H H1 → H d = none → H1 d = some (.xd [("block", .int n)]) → E (.ref T.C_BlockFailed) (some d) H1)
theorem ok_Chip_need_good (T : Txt K mg) : FO P w K mg base 3 T.a_Chip_need_good T.fd_Chip_need_good ["self", "block"] (spGoodB T) := by
  have sc := sc_Chip_need_good
  refine T.F_Chip_need_good.okX sc (fun vs H Q E h => ?_) (fun cdv A outer s H vs Q E hr h => ?_)
  · obtain ⟨_, _, _, _, rfl, _⟩ := h
    rfl
  · obtain ⟨r, F, c, n, rfl, hC, h0, h1, q1, q2⟩ := h
    refine ⟨_, (pss_one (ps_if (pt_truth (pe_ix ix_seq (pe_fld (pv 0) rfl) (pv 1) (fun _ _ => rfl)) (by intro _; rfl)) (pss_one (ps_raiseK rfl (takes_of rfl rfl rfl rfl) (pmk_oex T.xi_BlockFailed.o T.xi_BlockFailed.i T.xi_BlockFailed.t (ok_BlockFailed_init T) (hr.mono (by decide)) T.bd_BlockFailed_init .nil passE0 rfl T.g_BlockFailed (pa_cons (pv 1) pa_nil)))) pss_nil)), ?_⟩
    have ho := hC.obj
    have hbr := hC.br
    have hsz := hC.sz.broken
    have hb := hC.sz.b
    unfold chipF at ho
    walk_at "begin"
    walk_at "go"
    refine x_iteB (fun h => ?_) (fun h => ?_)
    · walk_at "go"
      refine x_moK ⟨n, rfl, h0, by omega⟩ (fun d H1 hd hs hx => q2 h d H1 hs hd hx) T.xi_BlockFailed.o T.nx_BlockFailed_block
    · walk_at "go"
      exact q1 h
theorem x_mGoodB {T : Txt K mg} {H : Hp} {Q : VK} {E : XK} {σ : L2.St} {r : Addr} {F : CF} {c : Cs} {t : TA} (hC : ChipAt T.C_Chip H r F c) (h : t σ H fun vs H2 => spGoodB T (.ref r :: vs) H2 Q E) : mtK P w K mg base (L2.CX P w) 3 "need_good" E σ t Q (.ref r) H :=
  x_mtK hC.obj ⟨⟨_, _, _, T.cl_Chip, T.m_Chip_need_good, ok_Chip_need_good T, T.bd_Chip_need_good⟩⟩ rfl h
/-! a deed begins -/
def Cs.tick (c : Cs) (n : Nat) (well : Bool) : Cs := { c with left := c.left.map (· - 1), tried := c.tried.set n (c.tried.getD n 0 + 1), broken := c.broken.set n (!well) }
def Cs.well (c : Cs) (n : Nat) (worn : Bool) : Bool := !worn && !decide (V.int (c.tried.getD n 0) = c.lasts.getD n .non)
theorem Sizes.tick {c : Cs} (h : Sizes c) (n : Nat) (well : Bool) : Sizes (c.tick n well) := ⟨h.b, h.p, h.m, h.lasts, h.stuff, by show ((c.tried.set _ _).length : Int) = _; rw [List.length_set]; exact h.tried, h.clr, by show ((c.broken.set _ _).length : Int) = _; rw [List.length_set]; exact h.broken, h.lsc⟩
def spGoes (T : Txt K mg) : Sp := fun vs H Q _ => ∃ (r : Addr) (F : CF) (c : Cs) (n : Int) (worn : Bool), vs = [.ref r, .int n, .bl worn] ∧ ChipAt T.C_Chip H r F c ∧ 0 ≤ n ∧ n < c.b ∧
  ∀ H', Off (F.all r) H H' → ChipAt T.C_Chip H' r F (c.tick n.toNat (c.well n.toNat worn)) → Q (.bl (c.well n.toNat worn)) H'
theorem lsc_scal {c : Cs} (h : Sizes c) {n : Nat} (hn : (n : Int) < c.b) {m : Int} : scal (.int m) (c.lasts.getD n .non) = true := by
  have hl := h.lasts
  have hlt : n < c.lasts.length := by omega
  rcases h.lsc _ (List.getElem_mem hlt) with e | ⟨k, e⟩ <;> simp [hlt, e, scal]
theorem ok_Chip_goes_well (T : Txt K mg) : FO P w K mg base 1 T.a_Chip_goes_well T.fd_Chip_goes_well ["self", "block", "worn"] (spGoes T) := by
  have sc := sc_Chip_goes_well
  refine T.F_Chip_goes_well.okX sc (fun vs H Q E h => ?_) (fun cdv A outer s H vs Q E hr h => ?_)
  · obtain ⟨_, _, _, _, _, rfl, _⟩ := h
    rfl
  · obtain ⟨r, F, c, n, worn, rfl, hC, h0, h1, q⟩ := h
    refine ⟨_, (pss_cons (ps_if (pt_cmpR op_uIsNot (pe_fld (pv 0) rfl) pe_non (nomark _)) (pss_one (ps_fldaug (pv 0) pe_int in_sub)) pss_nil)
      (pss_cons (ps_set (i := 3) sc.nd rfl (by first | exact Or.inl rfl | exact Or.inr rfl) (pe_andT (pe_notT (pv 2)) (pe_one (pe_cmpR (op_uNe hr.units) (pe_ix ix_seq (pe_fld (pv 0) rfl) (pv 1) (fun _ _ => rfl)) (pe_ix ix_seq (pe_fld (pv 0) rfl) (pv 1) (fun _ _ => rfl)) (nomark _)))))
      (pss_cons (ps_augS (pe_fld (pv 0) rfl) (pv 1) get_list pe_int ip_add set_list)
      (pss_cons (ps_asg (pe_notT (pv 3)) (pg_sub (pe_fld (pv 0) rfl) (pv 1) set_list))
      (pss_one (ps_ret (pv 3))))))), ?_⟩
    obtain ⟨⟨n1, n2, n3, n4, n5, n6⟩, ⟨n7, n8, n9, n10, n11⟩, ⟨n12, n13, n14, n15⟩, ⟨n16, n17, n18⟩, ⟨n19, n20⟩, n21⟩ := hC.ne
    have ho := hC.obj
    have hla := hC.la
    have hst := hC.st
    have htr := hC.tr
    have hcl := hC.cl
    have hbr := hC.br
    have hsz := hC.sz
    obtain ⟨lvs, hlg, hlog⟩ := hC.lg
    have z1 := hsz.lasts
    have z2 := hsz.tried
    have z3 := hsz.broken
    unfold chipF at ho
    walk_at "begin"
    refine x_join (fun σ' H1 => σ' = [some (.ref r), some (.int n), some (.bl worn), none] ∧ Off [r] H H1 ∧ H1 r = some (.ins T.C_Chip F.dx (chipF F (c.tick n.toNat (c.well n.toNat worn))))) (fun R hR => ?_) ?_
    · walk_at "go"
      cases hl : c.left with
      | none =>
        rw [hl] at ho
        refine iteT ?_
        walk_at "go"
        refine hR _ _ ⟨rfl, Off.refl, ?_⟩
        rw [ho]
        unfold chipF Cs.tick
        rw [hl]
        rfl
      | some m =>
        rw [hl] at ho
        refine iteF ?_
        walk_at "go"
        refine x_faK ho rfl ?_ T.cl_Chip T.na_Chip_left
        walk_at "go"
        refine x_rSub ?_
        refine x_f3O (fs' := chipF F (c.tick n.toNat (c.well n.toNat worn))) ho ?_ (fun H1 hO hI => ?_) (Nat.le_of_ble_eq_true rfl)
        · unfold chipF Cs.tick
          rw [hl]
          rfl
        · exact hR _ _ ⟨rfl, hO, hI⟩
    intro σ' H1 ⟨hσ, hO1, ho1⟩
    subst hσ
    have ho1' := ho1
    unfold chipF at ho1
    refine x_join (fun σ' H' => σ' = [some (.ref r), some (.int n), some (.bl worn), some (.bl (c.well n.toNat worn))] ∧ H' = H1) (fun R hR => ?_) ?_
    · walk_at "go"
      cases worn with
      | true => exact iteT (hR _ _ ⟨rfl, rfl⟩)
      | false =>
        refine iteF ?_
        walk_at "go"
        refine x_neSc (lsc_scal hsz (n := n.toNat) (by omega)) ?_
        exact hR _ _ ⟨rfl, rfl⟩
    intro σ' H' ⟨hσ, hH⟩
    subst hσ hH
    walk_at "go"
    rename_i H2 hO2 hI2 H3 hO3 hI3
    have f1 : H3 r = some (.ins T.C_Chip F.dx (chipF F (c.tick n.toNat (c.well n.toNat worn)))) := by walk_at "hp"
    have f2 : H3 F.la = some (.lst c.lasts) := by walk_at "hp"
    have f3 : H3 F.st = some (.lst c.stuff) := by walk_at "hp"
    have f4 : H3 F.cl = some (.lst (c.clr.map V.int)) := by walk_at "hp"
    have f5 : H3 F.lg = some (.lst lvs) := by walk_at "hp"
    have f6 : H3 F.tr = some (.lst ((c.tried.set n.toNat (c.tried.getD n.toNat 0 + 1)).map V.int)) := by
      rw [List.map_set]
      walk_at "hp"
    have f7 : H3 F.br = some (.lst ((c.broken.set n.toNat (!c.well n.toNat worn)).map V.bl)) := by
      rw [List.map_set]
      exact hI3
    have hoff : Off (F.all r) H H3 := by unfold CF.all; walk_at "off"
    exact q H3 hoff ⟨f1, f2, f3, f6, f4, f7, ⟨lvs, f5, hlog.mono (hC.tups hoff)⟩, hC.nd, hsz.tick _ _⟩
theorem x_mGoes {T : Txt K mg} {H : Hp} {Q : VK} {E : XK} {σ : L2.St} {r : Addr} {F : CF} {c : Cs} {t : TA} (hC : ChipAt T.C_Chip H r F c) (h : t σ H fun vs H2 => spGoes T (.ref r :: vs) H2 Q E) : mtK P w K mg base (L2.CX P w) 1 "goes_well" E σ t Q (.ref r) H :=
  x_mtK hC.obj ⟨⟨_, _, _, T.cl_Chip, T.m_Chip_goes_well, ok_Chip_goes_well T, T.bd_Chip_goes_well⟩⟩ rfl h
/-- how an asking ends, in a heap -/
def Fin (T : Txt K mg) (res : Res) (Qn : Hp → Prop) (E : XK) (H' : Hp) : Prop := match res with
  | .ok => Qn H'
  | .place => E (.ref T.C_NoPlace) none H'
  | .dark => E (.ref T.C_PowerGone) none H'
  | .failed b => ∀ d, H' d = some (.xd [("block", .int b)]) → E (.ref T.C_BlockFailed) (some d) H'
  | .clear n => ∀ d, H' d = some (.xd [("page", .int n)]) → E (.ref T.C_NotClear) (some d) H'
  | .value => False
theorem x_finOk {T : Txt K mg} {Qn : Hp → Prop} {E : XK} {H' : Hp} (h : Qn H') : Fin T .ok Qn E H' := h
theorem x_finDark {T : Txt K mg} {Qn : Hp → Prop} {E : XK} {H' : Hp} (h : E (.ref T.C_PowerGone) none H') : Fin T .dark Qn E H' := h
theorem x_finPlace {T : Txt K mg} {Qn : Hp → Prop} {E : XK} {H' : Hp} (h : E (.ref T.C_NoPlace) none H') : Fin T .place Qn E H' := h

/-! ### put -/
def Cs.said (c : Cs) (k : Nat) (w : Bool) (e : Str × Int) : Cs := { c.tick k w with log := c.log ++ [(e.1, e.2, w)] }
def Cs.putR (c : Cs) (o : Option Int) (v : V) : Res × Cs :=
  if inB o 0 (c.b * c.p - 1) = false then (.place, c) else if c.dark = true then (.dark, c)
  else if c.broken.getD (o.getD 0 / c.p).toNat false = true then (.failed (o.getD 0 / c.p), c)
  else if c.stuff.getD (o.getD 0).toNat .non ≠ .non then (.clear (o.getD 0), c)
  else if c.well (o.getD 0 / c.p).toNat false = true then (.ok, { c.said (o.getD 0 / c.p).toNat true ("put", o.getD 0) with stuff := c.stuff.set (o.getD 0).toNat v })
  else (.failed (o.getD 0 / c.p), c.said (o.getD 0 / c.p).toNat false ("put", o.getD 0))
theorem Sizes.said {c : Cs} (h : Sizes c) (n : Nat) (w : Bool) (e : Str × Int) : Sizes (c.said n w e) := ⟨(h.tick n w).b, h.p, h.m, h.lasts, h.stuff, (h.tick n w).tried, h.clr, (h.tick n w).broken, h.lsc⟩
theorem LogAll.snoc {H : Hp} {vs : List V} {es : List (Str × Int × Bool)} {v : V} {e : Str × Int × Bool} (h : LogAll H vs es) (hv : LogAt H v e) : LogAll H (vs ++ [v]) (es ++ [e]) := by
  refine ⟨by simp [h.1], fun i x y h1 h2 => ?_⟩
  by_cases hi : i < vs.length
  · rw [List.getElem?_append_left hi] at h1
    rw [List.getElem?_append_left (h.1 ▸ hi)] at h2
    exact h.2 i x y h1 h2
  · have e : i = vs.length := by
      have := (List.getElem?_eq_some_iff.mp h1).1
      simp at this
      omega
    subst e
    rw [List.getElem?_append_right (Nat.le_refl _)] at h1
    rw [h.1, List.getElem?_append_right (Nat.le_refl _)] at h2
    simp at h1 h2
    subst h1 h2
    exact hv
local macro_rules | `(tactic| walk_at "u") => `(tactic| ((with_reducible refine' x_appO ?ho ?_ ?hl); (case ho => walk_at "hp"); (try (case hl => walk_at "side")); intro H1 hO hI; (try dsimp only)))
def spPut (T : Txt K mg) : Sp := fun vs H Q E => ∃ (r : Addr) (F : CF) (c : Cs) (vp v : V) (o : Option Int), vs = [.ref r, vp, v] ∧ ChipAt T.C_Chip H r F c ∧ Num vp o ∧ c.log.length < 900000 ∧
  ∀ H', Off (F.all r) H H' → ChipAt T.C_Chip H' r F (c.putR o v).2 → Fin T (c.putR o v).1 (Q .non) E H'
theorem ok_Chip_put (T : Txt K mg) : FO P w K mg base 4 T.a_Chip_put T.fd_Chip_put ["self", "page", "stuff"] (spPut T) := by
  have sc := sc_Chip_put
  refine T.F_Chip_put.okX sc (fun vs H Q E h => ?_) (fun cdv A outer s H vs Q E hr h => ?_)
  · obtain ⟨_, _, _, _, _, _, rfl, _⟩ := h
    rfl
  · obtain ⟨r, F, c, vp, v, o, rfl, hC, hn, hll, q⟩ := h
    refine ⟨_, (pss_cons (ps_expr (pe_methD (k := 3) (pv 0) (hr.mono (by decide)) (passAt (takes_of rfl rfl rfl rfl)) (pa_cons (pv 1) pa_nil)))
      (pss_cons (ps_expr (pe_methD0 (k := 2) (pv 0) (hr.mono (by decide)) (passAt (takes_of rfl rfl rfl rfl))))
      (pss_cons (ps_set (i := 3) sc.nd rfl (by first | exact Or.inl rfl | exact Or.inr rfl) (pe_op op_fdivW (pv 1) (pe_fld (pv 0) rfl)))
      (pss_cons (ps_expr (pe_methD (k := 3) (pv 0) (hr.mono (by decide)) (passAt (takes_of rfl rfl rfl rfl)) (pa_cons (pv 3) pa_nil)))
      (pss_cons (ps_if (pt_cmpR op_uIsNot (pe_ix ix_seq (pe_fld (pv 0) rfl) (pv 1) (fun _ _ => rfl)) pe_non (nomark _)) (pss_one (ps_raiseK rfl (takes_of rfl rfl rfl rfl) (pmk_oex T.xi_NotClear.o T.xi_NotClear.i T.xi_NotClear.t (ok_NotClear_init T) (hr.mono (by decide)) T.bd_NotClear_init .nil passE0 rfl T.g_NotClear (pa_cons (pv 1) pa_nil)))) pss_nil)
      (pss_cons (ps_set (i := 4) sc.nd rfl (by first | exact Or.inl rfl | exact Or.inr rfl) (pe_methD (k := 1) (pv 0) (hr.mono (by decide)) (passAt (takes_of rfl rfl rfl rfl)) (pa_cons (pv 3) (pa_cons pe_bl pa_nil))))
      (pss_cons (ps_expr (pe_bm PySem.F.plainAttrs_list PySem.F.slot_list_append PySem.F.type_list_append mt_append (pe_fld (pv 0) rfl) (pa_cons (pe_tup (pa_cons pe_str (pa_cons (pv 1) (pa_cons (pv 4) pa_nil)))) pa_nil)))
      (pss_cons (ps_if (pt_not (pt_truth (pv 4) (by intro _; rfl))) (pss_one (ps_raiseK rfl (takes_of rfl rfl rfl rfl) (pmk_oex T.xi_BlockFailed.o T.xi_BlockFailed.i T.xi_BlockFailed.t (ok_BlockFailed_init T) (hr.mono (by decide)) T.bd_BlockFailed_init .nil passE0 rfl T.g_BlockFailed (pa_cons (pv 3) pa_nil)))) pss_nil)
      (pss_one (ps_asg (pv 2) (pg_sub (pe_fld (pv 0) rfl) (pv 1) set_list))))))))))), ?_⟩
    unfold Cs.putR at q
    have hsz := hC.sz
    obtain ⟨hb1, hb2⟩ := hsz.b
    obtain ⟨hp1, hp2⟩ := hsz.p
    walk_at "begin"
    walk_at "go"
    refine x_mPage hC ?_
    walk_at "go"
    refine x_page hC hn (fun hin => ?_) (fun hin => ?_)
    rotate_left
    · rw [if_pos hin] at q
      exact q H Off.refl hC
    rw [if_neg (by rw [hin]; decide)] at q
    obtain ⟨n, rfl, rfl, h0, h1⟩ := hn.of_inB hin
    dsimp only [Option.getD] at q
    have hk0 : 0 ≤ n / c.p := Int.ediv_nonneg h0 (by omega)
    have hk1 : n / c.p < c.b := Int.ediv_lt_of_lt_mul (by omega) (by omega)
    walk_at "go"
    refine x_mPower hC (fun hd => ?_) (fun hd => ?_)
    rotate_left
    · rw [if_pos hd] at q
      exact q H Off.refl hC
    rw [if_neg (by rw [hd]; decide)] at q
    have ho := hC.obj
    unfold chipF at ho
    have hst := hC.st
    have z4 := hsz.stuff
    walk_at "go"
    refine x_mGoodB hC ?_
    walk_at "go"
    refine ⟨r, F, c, _, rfl, hC, hk0, hk1, fun hg => ?_, fun hg d H1 hs hd1 hx => ?_⟩
    rotate_left
    · rw [if_pos hg] at q
      exact q H1 (Off.of hs) (hC.mono hs) d hx
    rw [if_neg (by rw [hg]; decide)] at q
    walk_at "go"
    walk_at "if"
    have hbp : c.b * c.p ≤ 16 * 16 := Int.mul_le_mul hb2 hp2 (by omega) (by decide)
    refine x_iteD (fun hcl => ?_) (fun hcl => ?_)
    rotate_left
    · walk_at "go"
      refine x_moK ⟨n, rfl, h0, by omega⟩ (fun d H1 hd hs hx => ?_) T.xi_NotClear.o T.nx_NotClear_page
      rw [if_pos hcl] at q
      exact q H1 (Off.of hs) (hC.mono hs) d hx
    rw [if_neg (fun z => z hcl)] at q
    walk_at "go"
    refine x_mGoes hC ?_
    walk_at "go"
    refine ⟨r, F, c, n / c.p, false, rfl, hC, hk0, hk1, fun H1 hO1 hC1 => ?_⟩
    obtain ⟨⟨n1, n2, n3, n4, n5, n6⟩, ⟨n7, n8, n9, n10, n11⟩, ⟨n12, n13, n14, n15⟩, ⟨n16, n17, n18⟩, ⟨n19, n20⟩, n21⟩ := hC.ne
    have hsz1 := hsz.said (n / c.p).toNat (c.well (n / c.p).toNat false) ("put", n)
    have hlog := hC1.lg
    have o1' := hC1.obj
    have a1 := hC1.la
    have a2 := hC1.st
    have a3 := hC1.tr
    have a4 := hC1.cl
    have a5 := hC1.br
    obtain ⟨lvs, hlg, hla⟩ := hlog
    have hlv : lvs.length < sizeLine := Nat.lt_of_lt_of_le (m := 900000) (by rw [hla.1]; exact hll) (by decide)
    have hla1 : LogAll H1 lvs c.log := hla
    obtain ⟨w, hw⟩ : ∃ w, c.well (n / c.p).toNat false = w := ⟨_, rfl⟩
    have qT : w = true → ∀ H', Off (F.all r) H H' → ChipAt T.C_Chip H' r F { c.said (n / c.p).toNat true ("put", n) with stuff := c.stuff.set n.toNat v } → Q .non H' := fun h => by
      rw [if_pos (hw.trans h)] at q
      exact q
    have qF : w = false → ∀ H', Off (F.all r) H H' → ChipAt T.C_Chip H' r F (c.said (n / c.p).toNat false ("put", n)) → ∀ d, H' d = some (.xd [("block", .int (n / c.p))]) → E (.ref T.C_BlockFailed) (some d) H' := fun h => by
      rw [if_neg (by rw [hw, h]; decide)] at q
      exact q
    clear q
    rw [hw] at o1' a1 a2 a3 a4 a5 hsz1 hC1 ⊢
    have o1 := o1'
    unfold chipF at o1
    have hoff1 := hO1
    have hO1 := hoff1
    clear hO1
    walk_at "go"
    rename_i qt H2 hqt hs2 hn2 H3 hO3 hI3
    have f1 : H3 r = some (.ins T.C_Chip F.dx (chipF F (c.tick (n / c.p).toNat w))) := by walk_at "hp"
    have f2 : H3 F.la = some (.lst c.lasts) := by walk_at "hp"
    have f3 : H3 F.st = some (.lst c.stuff) := by walk_at "hp"
    have f4 : H3 F.cl = some (.lst (c.clr.map V.int)) := by walk_at "hp"
    have f6 : H3 F.tr = some (.lst ((c.tick (n / c.p).toNat w).tried.map V.int)) := by walk_at "hp"
    have f7 : H3 F.br = some (.lst ((c.tick (n / c.p).toNat w).broken.map V.bl)) := by walk_at "hp"
    have hoff13 : Off (F.all r) H1 H3 := by unfold CF.all; walk_at "off"
    have hoff3 := hoff1.trans hoff13
    have hq3 : H3 qt = some (.tup [.str "put", .int n, .bl w]) := hO3.at hn2 (nin_of (ne_of_none hlg hqt).symm)
    have hla3 : LogAll H3 (lvs ++ [.ref qt]) (c.log ++ [(("put" : Str), n, w)]) := ((hla1.mono (hC1.tups hoff13))).snoc ⟨qt, rfl, hq3⟩
    have hC3 : ChipAt T.C_Chip H3 r F (c.said (n / c.p).toNat w ("put", n)) := ⟨f1, f2, f3, f6, f4, f7, ⟨_, hI3, hla3⟩, hC.nd, hsz1⟩
    refine x_join (fun σ' H' => σ' = [some (.ref r), some (.int n), some v, some (.int (n / c.p)), some (.bl w)] ∧ H' = H3 ∧ w = true) (fun R hR => ?_) ?_
    · walk_at "go"
      refine x_iteB (fun h => ?_) (fun h => ?_)
      · walk_at "go"
        exact hR _ _ ⟨rfl, rfl, h⟩
      · subst h
        walk_at "go"
        refine x_moK ⟨n / c.p, rfl, hk0, by omega⟩ (fun d H4 hd hs hx => ?_) T.xi_BlockFailed.o T.nx_BlockFailed_block
        exact qF rfl H4 (hoff3.trans (Off.of hs)) (hC3.mono hs) d hx
    intro σ' H' ⟨hσ, hH, hwt⟩
    subst hσ hH hwt
    unfold chipF at f1
    have hC3' := hC3
    clear hoff13
    have hst3 : (n : Int) < c.stuff.length := by omega
    walk_at "go"
    rename_i H4 hO4 hI4
    have g1 : H4 r = some (.ins T.C_Chip F.dx (chipF F (c.tick (n / c.p).toNat true))) := by unfold chipF; walk_at "hp"
    have g2 : H4 F.la = some (.lst c.lasts) := by walk_at "hp"
    have g4 : H4 F.cl = some (.lst (c.clr.map V.int)) := by walk_at "hp"
    have g6 : H4 F.tr = some (.lst ((c.tick (n / c.p).toNat true).tried.map V.int)) := by walk_at "hp"
    have g7 : H4 F.br = some (.lst ((c.tick (n / c.p).toNat true).broken.map V.bl)) := by walk_at "hp"
    have g8 : H4 F.lg = some (.lst (lvs ++ [.ref qt])) := by walk_at "hp"
    have hoff34 : Off (F.all r) H' H4 := by unfold CF.all; walk_at "off"
    exact qT rfl H4 (hoff3.trans hoff34) ⟨g1, g2, hI4, g6, g4, g7, ⟨_, g8, hla3.mono (hC3'.tups hoff34)⟩, hC.nd, ⟨hsz1.b, hsz1.p, hsz1.m, hsz1.lasts, by show ((c.stuff.set _ _).length : Int) = _; rw [List.length_set]; exact hsz.stuff, hsz1.tried, hsz1.clr, hsz1.broken, hsz1.lsc⟩⟩
theorem x_mPut {T : Txt K mg} {H : Hp} {Q : VK} {E : XK} {σ : L2.St} {r : Addr} {F : CF} {c : Cs} {t : TA} (hC : ChipAt T.C_Chip H r F c) (h : t σ H fun vs H2 => spPut T (.ref r :: vs) H2 Q E) : mtK P w K mg base (L2.CX P w) 4 "put" E σ t Q (.ref r) H :=
  x_mtK hC.obj ⟨⟨_, _, _, T.cl_Chip, T.m_Chip_put, ok_Chip_put T, T.bd_Chip_put⟩⟩ rfl h

/-! ### a new chip -/
def endF (n : Int) : List (Option Int × Option Int) → List V → Option (List V)
  | [], l => some l
  | (b, g) :: r, l => if inB b 0 (n - 1) = true then if inB g 0 1000000 = true then if l.getD (b.getD 0).toNat .non = .non then endF n r (l.set (b.getD 0).toNat (.int (g.getD 0))) else none else none else none
theorem endF_cons {n : Int} {b g : Option Int} {r : List (Option Int × Option Int)} {l : List V} : endF n ((b, g) :: r) l = if inB b 0 (n - 1) = true then if inB g 0 1000000 = true then if l.getD (b.getD 0).toNat .non = .non then endF n r (l.set (b.getD 0).toNat (.int (g.getD 0))) else none else none else none := rfl
def IllsAt (H : Hp) (v : V) (is : List (Option Int × Option Int)) : Prop := (v = .non ∧ is = []) ∨ ∃ q vs, v = .ref q ∧ (H q = some (.lst vs) ∨ H q = some (.tup vs)) ∧ vs.length = is.length ∧ ∀ (i : Nat) x e, vs[i]? = some x → is[i]? = some e → ∃ t vb vg, x = .ref t ∧ H t = some (.tup [vb, vg]) ∧ Num vb e.1 ∧ Num vg e.2
def spEndu (T : Txt K mg) : Sp := fun vs H Q E => ∃ (n : Int) (vi : V) (is : List (Option Int × Option Int)), vs = [.int n, vi] ∧ 2 ≤ n ∧ n ≤ 16 ∧ IllsAt H vi is ∧
  (∀ l, endF n is (List.replicate n.toNat .non) = some l → ∀ p H', Same H H' → H p = none → H' p = some (.lst l) → Q (.ref p) H') ∧
  (endF n is (List.replicate n.toNat .non) = none → ∀ H', Same H H' → E (.ref T.C_NoChip) none H')
theorem ok_endurance (T : Txt K mg) : FO P w K mg base 3 T.a_endurance T.fd_endurance ["blocks", "ills"] (spEndu T) := by
  have sc := sc_endurance
  refine T.F_endurance.okX sc (fun vs H Q E h => ?_) (fun cdv A outer s H vs Q E hr h => ?_)
  · obtain ⟨_, _, _, rfl, _⟩ := h
    rfl
  · obtain ⟨n, vi, is, rfl, h2, h16, hi, q1, q2⟩ := h
    refine ⟨_, (pss_cons (ps_set (i := 2) sc.nd rfl (by first | exact Or.inl rfl | exact Or.inr rfl) (pe_op op_uMul (pe_lst (pa_cons pe_non pa_nil)) (pv 0)))
      (pss_cons (ps_if (pt_cmpR op_uIs (pv 1) pe_non (nomark _)) (pss_one (ps_ret (pv 2))) pss_nil)
      (pss_cons (ps_for (passes_of rfl) rfl (pi_seq (pv 1)) (pg_tup (by rfl) (pgs_cons (pg_name (i := 3) sc.nd rfl (by first | exact Or.inl rfl | exact Or.inr rfl)) (pgs_cons (pg_name (i := 4) sc.nd rfl (by first | exact Or.inl rfl | exact Or.inr rfl)) pgs_nil))) (pss_cons (ps_if (PW.pt (pw_or (pt_not (pt_truth (pe_callS (ok_is_within T) (hr.mono (by decide)) (by rfl) T.g_is_within T.k_is_within T.bd_is_within (passAt (takes_of rfl rfl rfl rfl)) (pa_cons (pv 3) (pa_cons pe_int (pa_cons (pe_op op_sub (pv 0) pe_int) pa_nil)))) (by intro _; rfl))) (pw_or1 (pt_not (pt_truth (pe_callS (ok_is_within T) (hr.mono (by decide)) (by rfl) T.g_is_within T.k_is_within T.bd_is_within (passAt (takes_of rfl rfl rfl rfl)) (pa_cons (pv 4) (pa_cons pe_int (pa_cons (pe_glob rfl T.g_MOST T.r_MOST) pa_nil)))) (by intro _; rfl)))))) (pss_one (ps_raiseK rfl (takes_of rfl rfl rfl rfl) (pmk_ownK T.xc_NoChip T.g_NoChip rfl))) pss_nil)
      (pss_cons (ps_if (pt_cmpR op_uIsNot (pe_ix ix_seq (pv 2) (pv 3) (fun _ _ => rfl)) pe_non (nomark _)) (pss_one (ps_raiseK rfl (takes_of rfl rfl rfl rfl) (pmk_ownK T.xc_NoChip T.g_NoChip rfl))) pss_nil)
      (pss_one (ps_asg (pv 4) (pg_sub (pv 2) (pv 3) set_list))))))
      (pss_one (ps_ret (pv 2)))))), ?_⟩
    walk_at "begin"
    walk_at "go"
    rename_i p0 H0 hp0 hs0 hn0 p H1 hp hs1 hn1
    have hpH : H p = none := same_none hs0 hp
    have s01 : Same H H1 := hs0.trans hs1
    rcases hi with ⟨rfl, rfl⟩ | ⟨qi, vs, rfl, hq, hlen, hall⟩
    · walk_at "if"
      refine iteT ?_
      walk_at "go"
      exact q1 _ rfl p H1 s01 hpH hn1
    · walk_at "if"
      refine iteF ?_
      walk_at "go"
      refine x_seq ?_
      walk_at "go"
      obtain ⟨kq, hkq⟩ := sqB_of (K := K) hq
      refine x_frS (hkq _ s01) (fun i σ H2 => ∃ (v3 v4 : Option V) (l : List V), σ = [some (.int n), some (.ref qi), some (.ref p), v3, v4] ∧ Same H H2 ∧ H2 p = some (.lst l) ∧ (l.length : Int) = n ∧ (∀ x ∈ l, x = .non ∨ ∃ k : Int, x = .int k) ∧ endF n is (List.replicate n.toNat .non) = endF n (is.drop i) l)
        ⟨_, _, _, rfl, s01, hn1, by rw [List.length_replicate]; omega, fun x hx => .inl (List.eq_of_mem_replicate hx), rfl⟩ (fun i σ H2 _ ⟨_, _, _, _, hs2, _⟩ => hkq _ hs2) ?_ ?_
      · intro i x σ H2 hx ⟨v3, v4, l, hσ, hs2, hp2, hll, hlx, he⟩
        subst hσ
        have hil := (List.getElem?_eq_some_iff.mp hx).1
        obtain ⟨t, vb, vg, rfl, ht, hnb, hng⟩ := hall i x _ hx (List.getElem?_eq_getElem (hlen ▸ hil))
        have hil2 : i < is.length := hlen ▸ hil
        rw [List.drop_eq_getElem_cons hil2] at he
        generalize is[i] = e at hnb hng he
        obtain ⟨eb, eg⟩ := e
        dsimp only at hnb hng
        rw [endF_cons] at he
        have ht2 := hs2 _ _ ht
        refine x_gtup2 (SqT.of ht2) ?_
        dsimp only [List.set]
        walk_at "if"
        refine x_wNum hnb ?_
        walk_at "go"
        refine x_iteB (fun hb => ?_) (fun hb => ?_)
        rotate_left
        · rw [if_neg (by rw [hb]; decide)] at he
          walk_at "go"
          exact q2 he H2 hs2
        rw [if_pos hb] at he
        obtain ⟨b, rfl, rfl, hb1, hb2⟩ := hnb.of_inB hb
        walk_at "go"
        refine x_wNum hng ?_
        walk_at "go"
        refine x_iteB (fun hg => ?_) (fun hg => ?_)
        rotate_left
        · rw [if_neg (by rw [hg]; decide)] at he
          walk_at "go"
          exact q2 he H2 hs2
        rw [if_pos hg] at he
        obtain ⟨g, rfl, rfl, hg1, hg2⟩ := hng.of_inB hg
        dsimp only [Option.getD_some] at he
        walk_at "go"
        walk_at "if"
        refine x_iteD (fun hl => ?_) (fun hl => ?_)
        rotate_left
        · rw [if_neg hl] at he
          walk_at "go"
          exact q2 he H2 hs2
        rw [if_pos hl] at he
        walk_at "go"
        rename_i H3 hO3 hI3
        refine ⟨_, _, l.set b.toNat (.int g), rfl, Off.same1 hs2 hO3 hpH, hI3, by rw [List.length_set]; exact hll, fun x hx => ?_, he⟩
        rcases List.mem_or_eq_of_mem_set hx with hx | hx
        · exact hlx x hx
        · exact .inr ⟨g, hx⟩
      · intro σ H2 ⟨v3, v4, l, hσ, hs2, hp2, hll, hlx, he⟩
        subst hσ
        rw [hlen, List.drop_length] at he
        walk_at "go"
        exact q1 l he p H2 hs2 hpH hp2
theorem x_endu {T : Txt K mg} {H : Hp} {Q : VK} {E : XK} {n : Int} {vi : V} {is : List (Option Int × Option Int)} (hi : IllsAt H vi is)
  (q1 : ∀ l, endF n is (List.replicate n.toNat .non) = some l → ∀ p H', Same H H' → H p = none → H' p = some (.lst l) → Q (.ref p) H')
  (q2 : endF n is (List.replicate n.toNat .non) = none → ∀ H', Same H H' → E (.ref T.C_NoChip) none H') (h2 : 2 ≤ n ∧ n ≤ 16) : spEndu T [.int n, vi] H Q E := ⟨n, vi, is, rfl, h2.1, h2.2, hi, q1, q2⟩
theorem endF_len {n : Int} : ∀ {is : List (Option Int × Option Int)} {l l' : List V}, endF n is l = some l' → (∀ x ∈ l, x = .non ∨ ∃ k : Int, x = .int k) → l'.length = l.length ∧ ∀ x ∈ l', x = .non ∨ ∃ k : Int, x = .int k
  | [], l, l', h, hx => by cases h; exact ⟨rfl, hx⟩
  | (b, g) :: r, l, l', h, hx => by
    unfold endF at h
    split at h
    · split at h
      · split at h
        · obtain ⟨h1, h2⟩ := endF_len h (fun x m => by
            rcases List.mem_or_eq_of_mem_set m with m | m
            · exact hx x m
            · exact .inr ⟨_, m⟩)
          rw [List.length_set] at h1
          exact ⟨h1, h2⟩
        · cases h
      · cases h
    · cases h
def Cs.new (b p m : Int) (l : List V) : Cs := { b, p, m, lasts := l, stuff := List.replicate (b * p).toNat .non, tried := List.replicate b.toNat 0, clr := List.replicate b.toNat 0, broken := List.replicate b.toNat false, left := none, log := [] }
def chipGood (b p m : Option Int) : Bool := inB b 2 16 && inB p 1 16 && inB m 0 1000000
def spCInit (T : Txt K mg) : Sp := fun vs H Q E => ∃ (r dx : Addr) (vb vp vm vi : V) (b p m : Option Int) (is : List (Option Int × Option Int)), vs = [.ref r, vb, vp, vm, vi] ∧ H r = some (.ins T.C_Chip dx []) ∧ Num vb b ∧ Num vp p ∧ Num vm m ∧ IllsAt H vi is ∧
  (chipGood b p m = true → ∀ l, endF (b.getD 0) is (List.replicate (b.getD 0).toNat .non) = some l → ∀ F H', Off [r] H H' → (∀ a ∈ F.all r, a ≠ r → H a = none) → ChipAt T.C_Chip H' r F (Cs.new (b.getD 0) (p.getD 0) (m.getD 0) l) → Q .non H') ∧
  ((chipGood b p m = false ∨ endF (b.getD 0) is (List.replicate (b.getD 0).toNat .non) = none) → ∀ H', Off [r] H H' → E (.ref T.C_NoChip) none H')
theorem ok_Chip_init (T : Txt K mg) : FO P w K mg base 4 T.a_Chip_init T.fd_Chip_init ["self", "blocks", "pages", "most", "ills"] (spCInit T) := by
  have sc := sc_Chip_init
  refine T.F_Chip_init.okX sc (fun vs H Q E h => ?_) (fun cdv A outer s H vs Q E hr h => ?_)
  · obtain ⟨_, _, _, _, _, _, _, _, _, _, rfl, _⟩ := h
    rfl
  · obtain ⟨r, dx, vb, vp, vm, vi, b, p, m, is, rfl, hR, nb, np, nm, hi, q1, q2⟩ := h
    refine ⟨_, (pss_cons (ps_if (PW.pt (pw_or (pt_not (pt_truth (pe_callS (ok_is_within T) (hr.mono (by decide)) (by rfl) T.g_is_within T.k_is_within T.bd_is_within (passAt (takes_of rfl rfl rfl rfl)) (pa_cons (pv 1) (pa_cons pe_int (pa_cons (pe_glob rfl T.g_MANY T.r_MANY) pa_nil)))) (by intro _; rfl))) (pw_or (pt_not (pt_truth (pe_callS (ok_is_within T) (hr.mono (by decide)) (by rfl) T.g_is_within T.k_is_within T.bd_is_within (passAt (takes_of rfl rfl rfl rfl)) (pa_cons (pv 2) (pa_cons pe_int (pa_cons (pe_glob rfl T.g_MANY T.r_MANY) pa_nil)))) (by intro _; rfl))) (pw_or1 (pt_not (pt_truth (pe_callS (ok_is_within T) (hr.mono (by decide)) (by rfl) T.g_is_within T.k_is_within T.bd_is_within (passAt (takes_of rfl rfl rfl rfl)) (pa_cons (pv 3) (pa_cons pe_int (pa_cons (pe_glob rfl T.g_MOST T.r_MOST) pa_nil)))) (by intro _; rfl))))))) (pss_one (ps_raiseK rfl (takes_of rfl rfl rfl rfl) (pmk_ownK T.xc_NoChip T.g_NoChip rfl))) pss_nil)
      (pss_cons (ps_fld (pv 0) (pv 1) rfl)
      (pss_cons (ps_fld (pv 0) (pv 2) rfl)
      (pss_cons (ps_fld (pv 0) (pv 3) rfl)
      (pss_cons (ps_fld (pv 0) (pe_callS (ok_endurance T) (hr.mono (by decide)) (by rfl) T.g_endurance T.k_endurance T.bd_endurance (passAt (takes_of rfl rfl rfl rfl)) (pa_cons (pv 1) (pa_cons (pv 4) pa_nil))) rfl)
      (pss_cons (ps_fld (pv 0) (pe_op op_uMul (pe_lst (pa_cons pe_non pa_nil)) (pe_op op_uMul (pv 1) (pv 2))) rfl)
      (pss_cons (ps_fld (pv 0) (pe_op op_uMul (pe_lst (pa_cons pe_int pa_nil)) (pv 1)) rfl)
      (pss_cons (ps_fld (pv 0) (pe_op op_uMul (pe_lst (pa_cons pe_int pa_nil)) (pv 1)) rfl)
      (pss_cons (ps_fld (pv 0) (pe_op op_uMul (pe_lst (pa_cons pe_bl pa_nil)) (pv 1)) rfl)
      (pss_cons (ps_fld (pv 0) pe_non rfl)
      (pss_one (ps_fld (pv 0) (pe_lst pa_nil) rfl)))))))))))), ?_⟩
    walk_at "begin"
    walk_at "if"
    refine x_wNum nb ?_
    walk_at "go"
    refine x_iteB (fun hb => ?_) (fun hb => ?_)
    rotate_left
    · walk_at "go"
      exact q2 (.inl (by unfold chipGood; rw [hb]; rfl)) H Off.refl
    obtain ⟨b, rfl, rfl, hb1, hb2⟩ := nb.of_inB hb
    walk_at "go"
    refine x_wNum np ?_
    walk_at "go"
    refine x_iteB (fun hp => ?_) (fun hp => ?_)
    rotate_left
    · walk_at "go"
      exact q2 (.inl (by unfold chipGood; rw [hb, hp]; rfl)) H Off.refl
    obtain ⟨p, rfl, rfl, hp1, hp2⟩ := np.of_inB hp
    walk_at "go"
    refine x_wNum nm ?_
    walk_at "go"
    refine x_iteB (fun hm => ?_) (fun hm => ?_)
    rotate_left
    · walk_at "go"
      exact q2 (.inl (by unfold chipGood; rw [hb, hp, hm]; rfl)) H Off.refl
    obtain ⟨m, rfl, rfl, hm1, hm2⟩ := nm.of_inB hm
    have hgood : chipGood (some b) (some p) (some m) = true := by unfold chipGood; rw [hb, hp, hm]; rfl
    dsimp only [Option.getD_some] at q1 q2
    walk_at "go"
    rename_i H1 hO1 hI1 H2 hO2 hI2 H3 hO3 hI3
    have hO : Off [r] H H3 := (hO1.trans hO2).trans hO3
    have hi3 : IllsAt H3 vi is := by
      rcases hi with h | ⟨q, vs, e, hq, hl, hall⟩
      · exact .inl h
      · refine .inr ⟨q, vs, e, hq.imp (fun z => hO.lst hR z) (fun z => hO.tup hR z), hl, fun i x y h1 h2 => ?_⟩
        obtain ⟨t, vb, vg, e, ht, r⟩ := hall i x y h1 h2
        exact ⟨t, vb, vg, e, hO.tup hR ht, r⟩
    refine x_endu hi3 (fun l hl la H4 hs4 hla hlal => ?_) (fun hl H4 hs4 => q2 (.inr hl) H4 (hO.trans (Off.of hs4))) ⟨hb1, hb2⟩
    have hbp0 : 0 ≤ b * p := Int.mul_nonneg (by omega) (by omega)
    have hbp : b * p ≤ 16 * 16 := Int.mul_le_mul hb2 hp2 (by omega) (by decide)
    clear hO
    walk_at "go"
    rename_i H5 hO5 hI5 x1 G1 hx1 sx1 nx1 x2 G2 hx2 sx2 nx2 H6 hO6 hI6 y1 G3 hy1 sy1 ny1 y2 G4 hy2 sy2 ny2 H7 hO7 hI7 z1 G5 hz1 sz1 nz1 z2 G6 hz2 sz2 nz2 H8 hO8 hI8 w1 G7 hw1 sw1 nw1 w2 G8 hw2 sw2 nw2 H9 hO9 hI9 H10 hO10 hI10 u1 G9 hu1 su1 nu1 H11 hO11 hI11
    have d1 : r ≠ la := by walk_at "nn"
    have d2 : r ≠ x2 := by walk_at "nn"
    have d3 : la ≠ x2 := by walk_at "nn"
    have d4 : r ≠ y2 := by walk_at "nn"
    have d5 : la ≠ y2 := by walk_at "nn"
    have d6 : x2 ≠ y2 := by walk_at "nn"
    have d7 : r ≠ z2 := by walk_at "nn"
    have d8 : la ≠ z2 := by walk_at "nn"
    have d9 : x2 ≠ z2 := by walk_at "nn"
    have d10 : y2 ≠ z2 := by walk_at "nn"
    have d11 : r ≠ w2 := by walk_at "nn"
    have d12 : la ≠ w2 := by walk_at "nn"
    have d13 : x2 ≠ w2 := by walk_at "nn"
    have d14 : y2 ≠ w2 := by walk_at "nn"
    have d15 : z2 ≠ w2 := by walk_at "nn"
    have d16 : r ≠ u1 := by walk_at "nn"
    have d17 : la ≠ u1 := by walk_at "nn"
    have d18 : x2 ≠ u1 := by walk_at "nn"
    have d19 : y2 ≠ u1 := by walk_at "nn"
    have d20 : z2 ≠ u1 := by walk_at "nn"
    have d21 : w2 ≠ u1 := by walk_at "nn"
    have f1 : H11 la = some (.lst l) := by walk_at "hp"
    have f2 : H11 x2 = some (.lst (List.replicate (b * p).toNat .non)) := by walk_at "hp"
    have f3 : H11 y2 = some (.lst (List.replicate b.toNat (.int 0))) := by walk_at "hp"
    have f4 : H11 z2 = some (.lst (List.replicate b.toNat (.int 0))) := by walk_at "hp"
    have f5 : H11 w2 = some (.lst (List.replicate b.toNat (.bl false))) := by walk_at "hp"
    have f6 : H11 u1 = some (.lst []) := by walk_at "hp"
    have k1 : H la = none := by
      refine off_none (H1 := H3) ?_ hla d1.symm
      walk_at "off"
    have k2 : H x2 = none := by
      refine off_none (H1 := G1) ?_ hx2 d2.symm
      walk_at "off"
    have k3 : H y2 = none := by
      refine off_none (H1 := G3) ?_ hy2 d4.symm
      walk_at "off"
    have k4 : H z2 = none := by
      refine off_none (H1 := G5) ?_ hz2 d7.symm
      walk_at "off"
    have k5 : H w2 = none := by
      refine off_none (H1 := G7) ?_ hw2 d11.symm
      walk_at "off"
    have k6 : H u1 = none := by
      refine off_none (H1 := H10) ?_ hu1 d16.symm
      walk_at "off"
    have hoff : Off [r] H H11 := by walk_at "off"
    obtain ⟨e1, e2⟩ := endF_len hl (fun x hx => .inl (List.eq_of_mem_replicate hx))
    rw [List.length_replicate] at e1
    refine q1 hgood l hl ⟨dx, la, x2, y2, z2, w2, u1⟩ H11 hoff (fun a ha hne => ?_) ⟨hI11, f1, f2, ?_, ?_, ?_, ⟨[], f6, rfl, fun i v e h => by simp at h⟩, ?_, ⟨⟨hb1, hb2⟩, ⟨hp1, hp2⟩, ⟨hm1, hm2⟩, ?_, ?_, ?_, ?_, ?_, e2⟩⟩
    · unfold CF.all at ha
      simp only [List.mem_cons, List.not_mem_nil, or_false] at ha
      rcases ha with rfl | rfl | rfl | rfl | rfl | rfl | rfl
      · exact absurd rfl hne
      · exact k1
      · exact k2
      · exact k3
      · exact k4
      · exact k5
      · exact k6
    · show H11 y2 = some (.lst ((List.replicate _ _).map V.int))
      rw [List.map_replicate]
      exact f3
    · show H11 z2 = some (.lst ((List.replicate _ _).map V.int))
      rw [List.map_replicate]
      exact f4
    · show H11 w2 = some (.lst ((List.replicate _ _).map V.bl))
      rw [List.map_replicate]
      exact f5
    · show [r, la, x2, y2, z2, w2, u1].Nodup
      simp only [List.nodup_cons, List.mem_cons, List.not_mem_nil, or_false, not_or, not_false_eq_true, List.nodup_nil, and_true]
      exact ⟨⟨d1, d2, d4, d7, d11, d16⟩, ⟨d3, d5, d8, d12, d17⟩, ⟨d6, d9, d13, d18⟩, ⟨d10, d14, d19⟩, ⟨d15, d20⟩, d21⟩
    · show (l.length : Int) = b
      omega
    · show ((List.replicate _ _).length : Int) = b * p
      rw [List.length_replicate]
      omega
    · show ((List.replicate _ _).length : Int) = b
      rw [List.length_replicate]
      omega
    · show ((List.replicate _ _).length : Int) = b
      rw [List.length_replicate]
      omega
    · show ((List.replicate _ _).length : Int) = b
      rw [List.length_replicate]
      omega
theorem ChipAt.there {C : Addr} {H : Hp} {r : Addr} {F : CF} {c : Cs} (h : ChipAt C H r F c) : ∀ a ∈ F.all r, ∃ o, H a = some o ∧ ∀ xs, o ≠ .tup xs := fun a ha => by
  obtain ⟨vs, e7, _⟩ := h.lg
  unfold CF.all at ha
  simp only [List.mem_cons, List.not_mem_nil, or_false] at ha
  rcases ha with rfl | rfl | rfl | rfl | rfl | rfl | rfl
  · exact ⟨_, h.obj, fun _ z => by cases z⟩
  · exact ⟨_, h.la, fun _ z => by cases z⟩
  · exact ⟨_, h.st, fun _ z => by cases z⟩
  · exact ⟨_, h.tr, fun _ z => by cases z⟩
  · exact ⟨_, h.cl, fun _ z => by cases z⟩
  · exact ⟨_, h.br, fun _ z => by cases z⟩
  · exact ⟨_, e7, fun _ z => by cases z⟩
theorem ChipAt.fresh {C : Addr} {H : Hp} {r : Addr} {F : CF} {c : Cs} (h : ChipAt C H r F c) {q : Addr} (hq : H q = none) : q ∉ F.all r := fun m => by
  obtain ⟨o, e, _⟩ := h.there q m
  rw [hq] at e; cases e
theorem tups_of {S : List Addr} {H H' : Hp} (h : ∀ a ∈ S, ∃ o, H a = some o ∧ ∀ xs, o ≠ .tup xs) (s : Off S H H') : TupS H H' := fun b ys e => s b _ (fun m => by
  obtain ⟨o, e2, n⟩ := h b m
  rw [e] at e2
  cases e2
  exact n _ rfl) e
theorem endF_nil {n : Int} {l : List V} : endF n [] l = some l := rfl
theorem x_cinit {T : Txt K mg} {H H1 : Hp} {Q : VK} {E : XK} {x dx : Addr} {b p : Int} (hB : 2 ≤ b ∧ b ≤ 16) (hP : 1 ≤ p ∧ p ≤ 16) (hx : H x = none) (hs : Same H H1) (hn : H1 x = some (.ins T.C_Chip dx []))
    (q : ∀ F H', Same H H' → (∀ a ∈ F.all x, H a = none) → ChipAt T.C_Chip H' x F (Cs.new b p 1000000 (List.replicate b.toNat .non)) → Q .non H') : spCInit T [.ref x, .int b, .int p, .int 1000000, .non] H1 Q E := by
  refine ⟨x, dx, _, _, _, _, some b, some p, some 1000000, [], rfl, hn, .int b, .int p, .int 1000000, .inl ⟨rfl, rfl⟩, fun hg l hl F H' hO hF hC => ?_, fun hno => ?_⟩
  · cases hl
    refine q F H' (Off.same1 hs hO hx) (fun a ha => ?_) hC
    by_cases e : a = x
    · rw [e]; exact hx
    · exact same_none hs (hF a ha e)
  · exfalso
    rcases hno with hno | hno
    · unfold chipGood inB at hno
      have e1 : decide (2 ≤ b ∧ b ≤ 16) = true := decide_eq_true hB
      have e2 : decide (1 ≤ p ∧ p ≤ 16) = true := decide_eq_true hP
      dsimp only at hno
      rw [e1, e2] at hno
      cases hno
    · cases hno

/-! ### reading, and what is told of a block -/
def spRead (T : Txt K mg) : Sp := fun vs H Q E => ∃ (r : Addr) (F : CF) (c : Cs) (vp : V) (o : Option Int), vs = [.ref r, vp] ∧ ChipAt T.C_Chip H r F c ∧ Num vp o ∧ (inB o 0 (c.b * c.p - 1) = false → E (.ref T.C_NoPlace) none H) ∧
  (inB o 0 (c.b * c.p - 1) = true → c.dark = true → E (.ref T.C_PowerGone) none H) ∧ (inB o 0 (c.b * c.p - 1) = true → c.dark = false → Q (c.stuff.getD (o.getD 0).toNat .non) H)
theorem ok_Chip_read (T : Txt K mg) : FO P w K mg base 4 T.a_Chip_read T.fd_Chip_read ["self", "page"] (spRead T) := by
  have sc := sc_Chip_read
  refine T.F_Chip_read.okX sc (fun vs H Q E h => ?_) (fun cdv A outer s H vs Q E hr h => ?_)
  · obtain ⟨_, _, _, _, _, rfl, _⟩ := h
    rfl
  · obtain ⟨r, F, c, vp, o, rfl, hC, hn, q1, q2, q3⟩ := h
    refine ⟨_, (pss_cons (ps_expr (pe_methD (k := 3) (pv 0) (hr.mono (by decide)) (passAt (takes_of rfl rfl rfl rfl)) (pa_cons (pv 1) pa_nil)))
      (pss_cons (ps_expr (pe_methD0 (k := 2) (pv 0) (hr.mono (by decide)) (passAt (takes_of rfl rfl rfl rfl))))
      (pss_one (ps_ret (pe_ix ix_seq (pe_fld (pv 0) rfl) (pv 1) (fun _ _ => rfl)))))), ?_⟩
    walk_at "begin"
    walk_at "go"
    refine x_mPage hC ?_
    walk_at "go"
    refine x_page hC hn (fun hin => ?_) (fun hin => q1 hin)
    have q2' := q2 hin
    have q3' := q3 hin
    obtain ⟨n, rfl, rfl, h0, h1⟩ := hn.of_inB hin
    walk_at "go"
    refine x_mPower hC (fun hd => ?_) (fun hd => q2' hd)
    have ho := hC.obj
    unfold chipF at ho
    have hst := hC.st
    have z4 := hC.sz.stuff
    walk_at "go"
    exact q3' hd
theorem x_mRead {T : Txt K mg} {H : Hp} {Q : VK} {E : XK} {σ : L2.St} {r : Addr} {F : CF} {c : Cs} {t : TA} (hC : ChipAt T.C_Chip H r F c) (h : t σ H fun vs H2 => spRead T (.ref r :: vs) H2 Q E) : mtK P w K mg base (L2.CX P w) 4 "read" E σ t Q (.ref r) H :=
  x_mtK hC.obj ⟨⟨_, _, _, T.cl_Chip, T.m_Chip_read, ok_Chip_read T, T.bd_Chip_read⟩⟩ rfl h
/-- reading a page that is there, with power -/
theorem x_read {T : Txt K mg} {H : Hp} {Q : VK} {E : XK} {r : Addr} {F : CF} {c : Cs} {n : Int} (hC : ChipAt T.C_Chip H r F c) (hd : c.dark = false) (q : Q (c.stuff.getD n.toNat .non) H) (h : 0 ≤ n ∧ n < c.b * c.p) : spRead T [.ref r, .int n] H Q E :=
  ⟨r, F, c, _, some n, rfl, hC, .int n, (fun z => by simp [inB] at z; omega), (fun _ z => by rw [hd] at z; cases z), fun _ _ => q⟩

/-! ### marks -/
def mk (st nm : Int) : Int := st * 128 + nm
theorem mk_or {st nm : Int} (h : 0 ≤ st) (h0 : 0 ≤ nm) (h1 : nm < 128) : Builtin.bitOr (st * 2 ^ (7 : Int).toNat) nm = mk st nm := by
  have e := Bits.bitOr_join' (a := nm) (b := st) (k := 7) h0 (by omega) h
  rw [show (7 : Int).toNat = 7 from rfl, e]
  unfold mk
  omega
theorem mk_and {x : Int} (h : 0 ≤ x) : Builtin.bitAnd x 127 = x % 128 := Bits.bitAnd_mask 7 h
def spMark : Sp := fun vs H Q _ => ∃ st nm : Int, vs = [.int st, .int nm] ∧ (0 ≤ st ∧ st < 10 ^ 45 ∧ 0 ≤ nm ∧ nm < 128) ∧ Q (.int (mk st nm)) H
theorem x_mark {H : Hp} {Q : VK} {E : XK} {st nm : Int} (q : Q (.int (mk st nm)) H) (h : 0 ≤ st ∧ st < 10 ^ 45 ∧ 0 ≤ nm ∧ nm < 128) : spMark [.int st, .int nm] H Q E := ⟨st, nm, rfl, h, q⟩
local macro_rules | `(tactic| walk_at "u") => `(tactic| ((with_reducible refine x_mark ?_ ?hs); (try (case hs => walk_at "side"))))
theorem ok_mark_of (T : Txt K mg) : FO P w K mg base 1 T.a_mark_of T.fd_mark_of ["stamp", "name"] spMark := by
  have sc := sc_mark_of
  refine T.F_mark_of.okX sc (fun vs H Q E h => ?_) (fun cdv A outer s H vs Q E hr h => ?_)
  · obtain ⟨_, _, rfl, _⟩ := h
    rfl
  · obtain ⟨st, nm, rfl, ⟨h1, h2, h3, h4⟩, q⟩ := h
    have hc : CShl st 7 := shl_ok (n := 200) (by
      have : (2:Nat) ^ 200 = 1606938044258990275541962092341162602522202993782792835301376 := by decide
      omega) (by decide)
    refine ⟨_, (pss_one (ps_ret (pe_op op_or (pe_op op_uShl (pv 0) pe_int) (pv 1)))), ?_⟩
    walk_at "begin"
    walk_at "go"
    rw [mk_or h1 h3 h4]
    exact q

/-! ### a mark's parts -/
def spStampOf : Sp := fun vs H Q _ => ∃ m : Int, vs = [.int m] ∧ Q (.int (m / 128)) H
theorem x_stampOf {H : Hp} {Q : VK} {E : XK} {m : Int} (q : Q (.int (m / 128)) H) : spStampOf [.int m] H Q E := ⟨m, rfl, q⟩
local macro_rules | `(tactic| walk_at "u") => `(tactic| (with_reducible refine x_stampOf ?_))
theorem ok_stamp_of (T : Txt K mg) : FO P w K mg base 1 T.a_stamp_of T.fd_stamp_of ["mark"] spStampOf := by
  have sc := sc_stamp_of
  refine T.F_stamp_of.okX sc (fun vs H Q E h => ?_) (fun cdv A outer s H vs Q E hr h => ?_)
  · obtain ⟨_, rfl, _⟩ := h
    rfl
  · obtain ⟨m, rfl, q⟩ := h
    refine ⟨_, (pss_one (ps_ret (pe_op op_shr (pv 0) pe_int))), ?_⟩
    walk_at "begin"
    walk_at "go"
    exact q
def spNameOf : Sp := fun vs H Q _ => ∃ m : Int, vs = [.int m] ∧ 0 ≤ m ∧ Q (.int (m % 128)) H
theorem x_nameOf {H : Hp} {Q : VK} {E : XK} {m : Int} (q : Q (.int (m % 128)) H) (h : 0 ≤ m) : spNameOf [.int m] H Q E := ⟨m, rfl, h, q⟩
local macro_rules | `(tactic| walk_at "u") => `(tactic| ((with_reducible refine x_nameOf ?_ ?hs); (try (case hs => walk_at "side"))))
theorem ok_name_of (T : Txt K mg) : FO P w K mg base 1 T.a_name_of T.fd_name_of ["mark"] spNameOf := by
  have sc := sc_name_of
  refine T.F_name_of.okX sc (fun vs H Q E h => ?_) (fun cdv A outer s H vs Q E hr h => ?_)
  · obtain ⟨_, rfl, _⟩ := h
    rfl
  · obtain ⟨m, rfl, h, q⟩ := h
    refine ⟨_, (pss_one (ps_ret (pe_op op_and (pv 0) pe_int))), ?_⟩
    walk_at "begin"
    walk_at "go"
    rw [mk_and h]
    exact q

/-! ### sheets as bits: the plain law -/
def bitsN (ms : List Nat) : Nat := ms.foldl (fun b s => b ||| 2 ^ s) 0
theorem foldl_bit (k : Nat) : ∀ (ms : List Nat) (b : Nat), (ms.foldl (fun b s => b ||| 2 ^ s) b).testBit k = (b.testBit k || decide (k ∈ ms))
  | [], b => by simp
  | m :: ms, b => by
    rw [List.foldl_cons, foldl_bit k ms, Nat.testBit_or, Nat.testBit_two_pow]
    by_cases e : k = m
    · subst e; simp
    · have e2 : ¬ m = k := fun z => e z.symm
      simp [e, e2]
theorem bitsN_bit (ms : List Nat) (k : Nat) : (bitsN ms).testBit k = decide (k ∈ ms) := by
  unfold bitsN
  rw [foldl_bit]
  simp
theorem bitsN_lt {ms : List Nat} (h : ∀ m ∈ ms, m < 64) : bitsN ms < 2 ^ 64 := Nat.lt_pow_two_of_testBit _ fun i hi => by
  rw [bitsN_bit]
  exact decide_eq_false fun m => by have := h i m; omega
def shN (x : Nat) : List Nat := (List.range 64).filter x.testBit
theorem shN_bits {ms : List Nat} : shN (bitsN ms) = (List.range 64).filter fun k => decide (k ∈ ms) := by
  unfold shN
  exact List.filter_congr fun k _ => bitsN_bit ms k
theorem bits_shN {x : Nat} (h : x < 2 ^ 64) : bitsN (shN x) = x := by
  refine Nat.eq_of_testBit_eq fun k => ?_
  rw [bitsN_bit]
  unfold shN
  by_cases hk : k < 64
  · cases e : x.testBit k with
    | true => exact decide_eq_true (List.mem_filter.mpr ⟨List.mem_range.mpr hk, e⟩)
    | false => exact decide_eq_false fun m => by have := (List.mem_filter.mp m).2; rw [e] at this; cases this
  · rw [Nat.testBit_lt_two_pow (Nat.lt_of_lt_of_le h (Nat.pow_le_pow_right (by decide) (by omega)))]
    exact decide_eq_false fun m => hk (List.mem_range.mp (List.mem_filter.mp m).1)
theorem sum_bits : ∀ (n x : Nat), x < 2 ^ n → (((List.range n).filter x.testBit).map fun k => 2 ^ k).sum = x
  | 0, x, h => by
    have : x = 0 := by simpa using h
    subst this
    rfl
  | n + 1, x, h => by
    have hm : x % 2 ^ n < 2 ^ n := Nat.mod_lt _ (Nat.two_pow_pos n)
    have ih := sum_bits n (x % 2 ^ n) hm
    have ef : (List.range n).filter (x % 2 ^ n).testBit = (List.range n).filter x.testBit := List.filter_congr fun k hk => by
      rw [Nat.testBit_mod_two_pow, decide_eq_true (List.mem_range.mp hk), Bool.true_and]
    rw [ef] at ih
    rw [List.range_succ, List.filter_append, List.map_append, List.sum_append, ih]
    have hd : x / 2 ^ n < 2 := Nat.div_lt_of_lt_mul (by rw [Nat.pow_succ] at h; exact h)
    have hx := Nat.mod_add_div x (2 ^ n)
    have tb : x.testBit n = decide (x / 2 ^ n % 2 = 1) := Nat.testBit_eq_decide_div_mod_eq
    have hc : x / 2 ^ n = 0 ∨ x / 2 ^ n = 1 := by
      generalize x / 2 ^ n = y at hd
      omega
    rcases hc with e | e
    · rw [e] at tb hx
      have t0 : x.testBit n = false := by rw [tb]; rfl
      simp only [List.filter_cons, t0, List.filter_nil]
      simpa using hx
    · rw [e] at tb hx
      have t1 : x.testBit n = true := by rw [tb]; rfl
      simp only [List.filter_cons, t1, List.filter_nil]
      simpa using hx
theorem shN_short {x s : Nat} (hs : s ≤ 64) (h : x < 2 ^ s) : (List.range s).filter x.testBit = shN x := by
  unfold shN
  obtain ⟨j, hj⟩ : ∃ j, 64 = s + j := ⟨64 - s, by omega⟩
  rw [hj, List.range_add, List.filter_append]
  have e : ((List.range j).map (s + ·)).filter x.testBit = [] := List.filter_eq_nil_iff.mpr fun k hk => by
    obtain ⟨i, _, rfl⟩ := List.mem_map.mp hk
    rw [Nat.testBit_lt_two_pow (Nat.lt_of_lt_of_le h (Nat.pow_le_pow_right (by decide) (by omega)))]
    decide
  rw [e, List.append_nil]
theorem range_bit {x s : Nat} : (List.range (s + 1)).filter x.testBit = if x.testBit s = true then (List.range s).filter x.testBit ++ [s] else (List.range s).filter x.testBit := by
  rw [List.range_succ, List.filter_append]
  split
  · rename_i h; simp [h]
  · rename_i h; simp [h]
theorem range_filt {f : Nat → Bool} {s : Nat} : (List.range (s + 1)).filter f = if f s = true then (List.range s).filter f ++ [s] else (List.range s).filter f := by
  rw [List.range_succ, List.filter_append]
  split
  · rename_i h; simp [h]
  · rename_i h; simp [h]
theorem or_step {b : Nat} {n : Int} : Builtin.bitOr (b : Int) (1 * 2 ^ n.toNat) = ((b ||| 2 ^ n.toNat : Nat) : Int) := by
  have e : (1 : Int) * 2 ^ n.toNat = ((2 ^ n.toNat : Nat) : Int) := by rw [Int.one_mul, Int.natCast_pow]; rfl
  rw [e, bitOr_nn (Int.natCast_nonneg _) (Int.natCast_nonneg _), Int.toNat_natCast, Int.toNat_natCast]
theorem and_one {b : Nat} : Builtin.bitAnd (b : Int) 1 = ((b % 2 : Nat) : Int) := by
  have e : Builtin.bitAnd (b : Int) 1 = (((b : Int).toNat &&& (1 : Int).toNat : Nat) : Int) := by
    have h0 : (0 : Int) ≤ b := Int.natCast_nonneg _
    simp [Builtin.bitAnd, h0]
  rw [e, Int.toNat_natCast]
  show ((b &&& 1 : Nat) : Int) = _
  rw [Nat.and_one_is_mod]
def zI (ks : List Nat) : List Int := ks.map fun k : Nat => (k : Int)
def iN (ks : List Nat) : List V := (zI ks).map V.int

/-! ### the sheets that bits are -/
def spSheets : Sp := fun vs H Q _ => ∃ (x : Nat), vs = [.int (x : Int)] ∧ x < 2 ^ 64 ∧ ∀ p H', Same H H' → H p = none → H' p = some (.lst (iN (shN x))) → Q (.ref p) H'
local macro_rules | `(tactic| walk_at "u") => `(tactic| ((with_reducible refine' x_appO ?ho ?_ ?hl); (case ho => walk_at "hp"); (try (case hl => walk_at "side")); intro H1 hO hI; (try dsimp only)))
theorem ok_sheets_of (T : Txt K mg) : FO P w K mg base 1 T.a_sheets_of T.fd_sheets_of ["bits"] spSheets := by
  have sc := sc_sheets_of
  refine T.F_sheets_of.okX sc (fun vs H Q E h => ?_) (fun cdv A outer s H vs Q E hr h => ?_)
  · obtain ⟨_, rfl, _⟩ := h
    rfl
  · obtain ⟨x, rfl, h1, q⟩ := h
    refine ⟨_, (pss_cons (ps_set (i := 1) sc.nd rfl (by first | exact Or.inl rfl | exact Or.inr rfl) (pe_lst pa_nil))
      (pss_cons (ps_set (i := 2) sc.nd rfl (by first | exact Or.inl rfl | exact Or.inr rfl) pe_int)
      (pss_cons (ps_while (passes_of rfl) (pt_cmpR op_gt (pv 0) pe_int (nomark _)) (pss_cons (ps_if (pt_cmpR (op_uEq hr.units) (pe_op op_and (pv 0) pe_int) pe_int (nomark _)) (pss_one (ps_expr (pe_bm PySem.F.plainAttrs_list PySem.F.slot_list_append PySem.F.type_list_append mt_append (pv 1) (pa_cons (pv 2) pa_nil)))) pss_nil)
      (pss_cons (ps_set (i := 0) sc.nd rfl (by first | exact Or.inl rfl | exact Or.inr rfl) (pe_op op_shr (pv 0) pe_int))
      (pss_one (ps_aug (i := 2) sc.nd rfl (by first | exact Or.inl rfl | exact Or.inr rfl) pe_int ip_add)))))
      (pss_one (ps_ret (pv 1)))))), ?_⟩
    walk_at "begin"
    walk_at "go"
    rename_i p H1 hp hs1 hn1
    refine x_seq ?_
    refine x_whl (fun m σ H' => ∃ s : Nat, s ≤ 64 ∧ m = 64 - s ∧ σ = [some (.int ((x / 2 ^ s : Nat) : Int)), some (.ref p), some (.int (s : Int))] ∧ Same H H' ∧ H' p = some (.lst (iN ((List.range s).filter x.testBit)))) 64
      ⟨0, by omega, rfl, by rw [Nat.pow_zero, Nat.div_one]; rfl, hs1, hn1⟩ ?_
    intro m σ H' ⟨s0, hs64, hm, hσ, hsH, hl⟩
    subst hσ
    walk_at "go"
    refine x_whD (fun hpos N hN => ?_) (fun hz => ?_)
    · have hs : s0 < 64 := by
        rcases Nat.lt_or_ge s0 64 with h | h
        · exact h
        · have e64 : s0 = 64 := by omega
          subst e64
          rw [Nat.div_eq_of_lt h1] at hpos
          exact absurd hpos (by decide)
      have tb : x.testBit s0 = decide (x / 2 ^ s0 % 2 = 1) := Nat.testBit_eq_decide_div_mod_eq
      have e2 : x / 2 ^ (s0 + 1) = x / 2 ^ s0 / 2 := by rw [Nat.pow_succ, Nat.div_div_eq_div_mul]
      refine x_join (fun σ' H2 => σ' = [some (.int ((x / 2 ^ s0 : Nat) : Int)), some (.ref p), some (.int (s0 : Int))] ∧ Same H H2 ∧ H2 p = some (.lst (iN ((List.range (s0 + 1)).filter x.testBit)))) (fun R hR => ?_) ?_
      · have hll : (iN ((List.range s0).filter x.testBit)).length < sizeLine := Nat.lt_of_le_of_lt (show _ ≤ 1000 by
          unfold iN zI
          rw [List.length_map, List.length_map]
          have := List.length_filter_le x.testBit (List.range s0)
          rw [List.length_range] at this
          omega) (by decide)
        walk_at "go"
        rw [and_one]
        refine x_iteD (fun h => ?_) (fun h => ?_)
        · have tbt : x.testBit s0 = true := by rw [tb]; exact decide_eq_true (by exact_mod_cast h)
          walk_at "go"
          rename_i H3 hO hI
          refine hR _ _ ⟨rfl, Off.same1 hsH hO hp, ?_⟩
          rw [range_bit, if_pos tbt, hI]
          unfold iN zI
          rw [List.map_append, List.map_append]
          rfl
        · have tbf : ¬ x.testBit s0 = true := by rw [tb]; exact fun z => h (by exact_mod_cast of_decide_eq_true z)
          walk_at "go"
          refine hR _ _ ⟨rfl, hsH, ?_⟩
          rw [range_bit, if_neg tbf]
          exact hl
      intro σ' H2 ⟨hσ, hs2, hl2⟩
      subst hσ
      walk_at "go"
      refine hN (64 - (s0 + 1)) _ _ (by omega) ⟨s0 + 1, by omega, rfl, ?_, hs2, hl2⟩
      rw [e2, Int.natCast_ediv]
      rfl
    · have hz0 : x / 2 ^ s0 = 0 := by
        generalize x / 2 ^ s0 = y at hz
        omega
      have hlt : x < 2 ^ s0 := by
        rcases Nat.div_eq_zero_iff.mp hz0 with h | h
        · exact absurd h (Nat.ne_of_gt (Nat.two_pow_pos _))
        · exact h
      rw [shN_short hs64 hlt] at hl
      walk_at "go"
      exact q p H' hsH hp hl


/-! ### dicts from numbers to numbers -/
def kvI (ps : List (Int × Int)) : List (L2.Key × V) := ps.map fun e => (.inl e.1, .int e.2)
def getI (ps : List (Int × Int)) (n : Int) : Option Int := (ps.find? fun e => decide (e.1 = n)).map (·.2)
def putI (ps : List (Int × Int)) (n x : Int) : List (Int × Int) := if (ps.any fun e => decide (e.1 = n)) = true then ps.map (fun e => if e.1 = n then (e.1, x) else e) else ps ++ [(n, x)]
def dropI (ps : List (Int × Int)) (n : Int) : List (Int × Int) := ps.filter fun e => decide (e.1 ≠ n)
theorem keyI {m n : Int} : decide ((Sum.inl m : L2.Key) = .inl n) = decide (m = n) := by
  rw [decide_eq_decide]
  exact ⟨fun z => by injection z, fun z => by rw [z]⟩
theorem valV_I {n : Int} : ∀ {ps : List (Int × Int)}, valV (kvI ps) (.inl n) = (getI ps n).map V.int
  | [] => rfl
  | e :: ps => by
    by_cases h : e.1 = n
    · have e1 : valV (kvI (e :: ps)) (.inl n) = some (.int e.2) := valV_pos (p := ((Sum.inl e.1 : L2.Key), V.int e.2)) (by rw [h])
      rw [e1]
      unfold getI
      rw [List.find?_cons, decide_eq_true h]
      rfl
    · have e1 : valV (kvI (e :: ps)) (.inl n) = valV (kvI ps) (.inl n) := valV_neg (p := ((Sum.inl e.1 : L2.Key), V.int e.2)) (fun z => h (Sum.inl.inj z))
      rw [e1, valV_I]
      unfold getI
      rw [List.find?_cons, decide_eq_false h]
theorem putK_I {ps : List (Int × Int)} {n x : Int} : putK (kvI ps) (.inl n) (.int x) = kvI (putI ps n x) := by
  unfold putK putI
  have e : ((kvI ps).any fun kv => decide (kv.1 = .inl n)) = ps.any fun e => decide (e.1 = n) := by
    unfold kvI
    rw [List.any_map]
    exact congrArg (ps.any ·) (funext fun e => keyI)
  rw [e]
  split
  · unfold kvI
    rw [List.map_map, List.map_map]
    refine List.map_congr_left fun e _ => ?_
    show (if (Sum.inl e.1 : L2.Key) = .inl n then _ else _) = _
    by_cases h : e.1 = n
    · rw [if_pos (by rw [h])]
      simp [h]
    · rw [if_neg (fun z => h (by injection z))]
      simp [h]
  · unfold kvI
    rw [List.map_append]
    rfl
theorem dropK_I {ps : List (Int × Int)} {n : Int} : dropK (kvI ps) (.inl n) = kvI (dropI ps n) := by
  unfold dropK dropI kvI
  rw [List.filter_map]
  refine congrArg _ (List.filter_congr fun e _ => ?_)
  show decide ((Sum.inl e.1 : L2.Key) ≠ .inl n) = decide (e.1 ≠ n)
  rw [decide_eq_decide]
  exact ⟨fun z y => z (by rw [y]), fun z y => z (by injection y)⟩
theorem kvI_len {ps : List (Int × Int)} : (kvI ps).length = ps.length := List.length_map _
theorem getI_mem {ps : List (Int × Int)} {n x : Int} (h : getI ps n = some x) : (n, x) ∈ ps := by
  unfold getI at h
  cases hf : ps.find? (fun e => decide (e.1 = n)) with
  | none => rw [hf] at h; simp at h
  | some e =>
    rw [hf] at h
    simp at h
    have h1 := List.mem_of_find?_eq_some hf
    have h2 : e.1 = n := by simpa using List.find?_some hf
    rw [← h2, ← h]
    exact h1
/-! ### the book -/
structure Bk where
  b : Int
  p : Int
  wh : List (Int × Int)
  nm : List V
  live : List Int
  fil : List Int
  born : List Int
  stamp : Int
structure BF where
  dx : Addr
  wh : Addr
  nm : Addr
  lv : Addr
  fl : Addr
  bn : Addr
def bookF (F : BF) (k : Bk) : List (Str × V) := [("blocks", .int k.b), ("pages", .int k.p), ("where", .ref F.wh), ("names", .ref F.nm), ("live", .ref F.lv), ("filled", .ref F.fl), ("born", .ref F.bn), ("stamp", .int k.stamp)]
def BF.all (F : BF) (r : Addr) : List Addr := [r, F.wh, F.nm, F.lv, F.fl, F.bn]
/-- what a book is like -/
structure BkOk (k : Bk) : Prop where
  b : 2 ≤ k.b ∧ k.b ≤ 16
  p : 1 ≤ k.p ∧ k.p ≤ 16
  nm : (k.nm.length : Int) = k.b * k.p
  live : (k.live.length : Int) = k.b
  fil : (k.fil.length : Int) = k.b
  born : (k.born.length : Int) = k.b
  wh : ∀ e ∈ k.wh, 0 ≤ e.2 ∧ e.2 < k.b * k.p
  whl : k.wh.length ≤ 900
  st : 0 ≤ k.stamp ∧ k.stamp < 10 ^ 40
structure BookAt (C : Addr) (H : Hp) (r : Addr) (F : BF) (k : Bk) : Prop where
  obj : H r = some (.ins C F.dx (bookF F k))
  wh : H F.wh = some (.dK (kvI k.wh))
  nm : H F.nm = some (.lst k.nm)
  lv : H F.lv = some (.lst (k.live.map V.int))
  fl : H F.fl = some (.lst (k.fil.map V.int))
  bn : H F.bn = some (.lst (k.born.map V.int))
  nd : (BF.all F r).Nodup
theorem BookAt.mono {C : Addr} {H H' : Hp} {r : Addr} {F : BF} {k : Bk} (s : Same H H') (h : BookAt C H r F k) : BookAt C H' r F k := ⟨s _ _ h.obj, s _ _ h.wh, s _ _ h.nm, s _ _ h.lv, s _ _ h.fl, s _ _ h.bn, h.nd⟩
theorem BookAt.off {C : Addr} {H H' : Hp} {r : Addr} {F : BF} {k : Bk} {S : List Addr} (h : BookAt C H r F k) (s : Off S H H') (n : ∀ a, a ∈ F.all r → a ∉ S) : BookAt C H' r F k := by
  unfold BF.all at n
  exact ⟨s.at h.obj (n _ (by simp)), s.at h.wh (n _ (by simp)), s.at h.nm (n _ (by simp)), s.at h.lv (n _ (by simp)), s.at h.fl (n _ (by simp)), s.at h.bn (n _ (by simp)), h.nd⟩
theorem BookAt.ne {C : Addr} {H : Hp} {r : Addr} {F : BF} {k : Bk} (h : BookAt C H r F k) : (r ≠ F.wh ∧ r ≠ F.nm ∧ r ≠ F.lv ∧ r ≠ F.fl ∧ r ≠ F.bn) ∧ (F.wh ≠ F.nm ∧ F.wh ≠ F.lv ∧ F.wh ≠ F.fl ∧ F.wh ≠ F.bn) ∧ (F.nm ≠ F.lv ∧ F.nm ≠ F.fl ∧ F.nm ≠ F.bn) ∧ (F.lv ≠ F.fl ∧ F.lv ≠ F.bn) ∧ F.fl ≠ F.bn := by
  have d := h.nd
  unfold BF.all at d
  simp only [List.nodup_cons, List.mem_cons, List.not_mem_nil, or_false, not_or, not_false_eq_true, List.nodup_nil, and_true] at d
  exact d
theorem BookAt.there {C : Addr} {H : Hp} {r : Addr} {F : BF} {k : Bk} (h : BookAt C H r F k) : ∀ a ∈ F.all r, ∃ o, H a = some o ∧ ∀ xs, o ≠ .tup xs := fun a ha => by
  unfold BF.all at ha
  simp only [List.mem_cons, List.not_mem_nil, or_false] at ha
  rcases ha with rfl | rfl | rfl | rfl | rfl | rfl
  · exact ⟨_, h.obj, fun _ z => by cases z⟩
  · exact ⟨_, h.wh, fun _ z => by cases z⟩
  · exact ⟨_, h.nm, fun _ z => by cases z⟩
  · exact ⟨_, h.lv, fun _ z => by cases z⟩
  · exact ⟨_, h.fl, fun _ z => by cases z⟩
  · exact ⟨_, h.bn, fun _ z => by cases z⟩
theorem BookAt.fresh {C : Addr} {H : Hp} {r : Addr} {F : BF} {k : Bk} (h : BookAt C H r F k) {q : Addr} (hq : H q = none) : q ∉ F.all r := fun m => by
  obtain ⟨o, e, _⟩ := h.there q m
  rw [hq] at e
  cases e
def Bk.new (b p : Int) : Bk := { b, p, wh := [], nm := List.replicate (b * p).toNat .non, live := List.replicate b.toNat 0, fil := List.replicate b.toNat 0, born := List.replicate b.toNat 0, stamp := 1 }
theorem Bk.new_ok {b p : Int} (hb : 2 ≤ b ∧ b ≤ 16) (hp : 1 ≤ p ∧ p ≤ 16) : BkOk (Bk.new b p) := by
  have hbp : 0 ≤ b * p := Int.mul_nonneg (by omega) (by omega)
  refine ⟨hb, hp, ?_, ?_, ?_, ?_, (fun e h => by cases h), (by show 0 ≤ 900; decide), ⟨(by show (0:Int) ≤ 1; decide), (by show (1:Int) < 10 ^ 40; decide)⟩⟩
  · show ((List.replicate _ _).length : Int) = b * p
    rw [List.length_replicate]; omega
  · show ((List.replicate _ _).length : Int) = b
    rw [List.length_replicate]; omega
  · show ((List.replicate _ _).length : Int) = b
    rw [List.length_replicate]; omega
  · show ((List.replicate _ _).length : Int) = b
    rw [List.length_replicate]; omega

local macro_rules | `(tactic| walk_at "u") => `(tactic| ((with_reducible refine' x_appO ?ho ?_ ?hl); (case ho => walk_at "hp"); (try (case hl => walk_at "side")); intro H1 hO hI; (try dsimp only)))
def spBInit (T : Txt K mg) : Sp := fun vs H Q _ => ∃ (r dx : Addr) (b p : Int), vs = [.ref r, .int b, .int p] ∧ H r = some (.ins T.C_Book dx []) ∧ (2 ≤ b ∧ b ≤ 16) ∧ (1 ≤ p ∧ p ≤ 16) ∧
  ∀ F H', Off [r] H H' → (∀ a ∈ F.all r, a ≠ r → H a = none) → BookAt T.C_Book H' r F (Bk.new b p) → Q .non H'
theorem ok_Book_init (T : Txt K mg) : FO P w K mg base 1 T.a_Book_init T.fd_Book_init ["self", "blocks", "pages"] (spBInit T) := by
  have sc := sc_Book_init
  refine T.F_Book_init.okX sc (fun vs H Q E h => ?_) (fun cdv A outer s H vs Q E hr h => ?_)
  · obtain ⟨_, _, _, _, rfl, _⟩ := h
    rfl
  · obtain ⟨r, dx, b, p, rfl, hR, hb, hp, q⟩ := h
    refine ⟨_, (pss_cons (ps_fld (pv 0) (pv 1) rfl)
      (pss_cons (ps_fld (pv 0) (pv 2) rfl)
      (pss_cons (ps_fld (pv 0) pe_dnewK rfl)
      (pss_cons (ps_fld (pv 0) (pe_op op_uMul (pe_lst (pa_cons pe_non pa_nil)) (pe_op op_uMul (pv 1) (pv 2))) rfl)
      (pss_cons (ps_fld (pv 0) (pe_op op_uMul (pe_lst (pa_cons pe_int pa_nil)) (pv 1)) rfl)
      (pss_cons (ps_fld (pv 0) (pe_op op_uMul (pe_lst (pa_cons pe_int pa_nil)) (pv 1)) rfl)
      (pss_cons (ps_fld (pv 0) (pe_op op_uMul (pe_lst (pa_cons pe_int pa_nil)) (pv 1)) rfl)
      (pss_one (ps_fld (pv 0) pe_int rfl))))))))), ?_⟩
    have hBP0 : 0 ≤ b * p := Int.mul_nonneg (by omega) (by omega)
    have hBP : b * p ≤ 16 * 16 := Int.mul_le_mul hb.2 hp.2 (by omega) (by decide)
    walk_at "begin"
    walk_at "go"
    rename_i H1 hO1 hI1 H2 hO2 hI2 wh W1 hwh sw nw H3 hO3 hI3 x1 A1 hx1 sx1 nx1 nm A2 hnm snm nnm H4 hO4 hI4 y1 A3 hy1 sy1 ny1 lw A4 hlv slv nlv H5 hO5 hI5 z1 A5 hz1 sz1 nz1 fl A6 hfl sfl nfl H6 hO6 hI6 w1 A7 hw1 sw1 nw1 bn A8 hbn sbn nbn H7 hO7 hI7 H8 hO8 hI8
    have c1 : r ≠ wh := ne_of_none hI2 hwh
    have c2 : r ≠ nm := ne_of_none (sx1 _ _ hI3) hnm
    have c3 : r ≠ lw := ne_of_none (sy1 _ _ hI4) hlv
    have c4 : r ≠ fl := ne_of_none (sz1 _ _ hI5) hfl
    have c5 : r ≠ bn := ne_of_none (sw1 _ _ hI6) hbn
    have c6 : wh ≠ nm := by walk_at "nn"
    have c7 : wh ≠ lw := by walk_at "nn"
    have c8 : wh ≠ fl := by walk_at "nn"
    have c9 : wh ≠ bn := by walk_at "nn"
    have c10 : nm ≠ lw := by walk_at "nn"
    have c11 : nm ≠ fl := by walk_at "nn"
    have c12 : nm ≠ bn := by walk_at "nn"
    have c13 : lw ≠ fl := by walk_at "nn"
    have c14 : lw ≠ bn := by walk_at "nn"
    have c15 : fl ≠ bn := by walk_at "nn"
    have f1 : H8 wh = some (.dK []) := by walk_at "hp"
    have f2 : H8 nm = some (.lst (List.replicate (b * p).toNat .non)) := by walk_at "hp"
    have f3 : H8 lw = some (.lst (List.replicate b.toNat (.int 0))) := by walk_at "hp"
    have f4 : H8 fl = some (.lst (List.replicate b.toNat (.int 0))) := by walk_at "hp"
    have f5 : H8 bn = some (.lst (List.replicate b.toNat (.int 0))) := by walk_at "hp"
    have o1 : Off [r] H H2 := hO1.trans hO2
    have o3 : Off [r] H H3 := (o1.trans (Off.of sw)).trans hO3
    have o4 : Off [r] H H4 := (o3.trans (Off.of (sx1.trans snm))).trans hO4
    have o5 : Off [r] H H5 := (o4.trans (Off.of (sy1.trans slv))).trans hO5
    have o6 : Off [r] H H6 := (o5.trans (Off.of (sz1.trans sfl))).trans hO6
    have o8 : Off [r] H H8 := ((o6.trans (Off.of (sw1.trans sbn))).trans hO7).trans hO8
    refine q ⟨dx, wh, nm, lw, fl, bn⟩ H8 o8 (fun a ha hne => ?_) ⟨hI8, f1, f2, ?_, ?_, ?_, ?_⟩
    · unfold BF.all at ha
      simp only [List.mem_cons, List.not_mem_nil, or_false] at ha
      rcases ha with rfl | rfl | rfl | rfl | rfl | rfl
      · exact absurd rfl hne
      · exact off_none o1 hwh hne
      · exact off_none o3 (same_none sx1 hnm) hne
      · exact off_none o4 (same_none sy1 hlv) hne
      · exact off_none o5 (same_none sz1 hfl) hne
      · exact off_none o6 (same_none sw1 hbn) hne
    · show H8 lw = some (.lst ((List.replicate _ _).map V.int))
      rw [List.map_replicate]; exact f3
    · show H8 fl = some (.lst ((List.replicate _ _).map V.int))
      rw [List.map_replicate]; exact f4
    · show H8 bn = some (.lst ((List.replicate _ _).map V.int))
      rw [List.map_replicate]; exact f5
    · unfold BF.all
      simp only [List.nodup_cons, List.mem_cons, List.not_mem_nil, or_false, not_or, not_false_eq_true, List.nodup_nil, and_true]
      exact ⟨⟨c1, c2, c3, c4, c5⟩, ⟨c6, c7, c8, c9⟩, ⟨c10, c11, c12⟩, ⟨c13, c14⟩, c15⟩
def Bk.drop (k : Bk) (n : Int) : Bk := match getI k.wh n with
  | none => k
  | some x => { k with wh := dropI k.wh n, nm := k.nm.set x.toNat .non, live := k.live.set (x / k.p).toNat (k.live.getD (x / k.p).toNat 0 - 1) }
def spForget (T : Txt K mg) : Sp := fun vs H Q _ => ∃ (r : Addr) (F : BF) (k : Bk) (n : Int), vs = [.ref r, .int n] ∧ BookAt T.C_Book H r F k ∧ BkOk k ∧
  ∀ H', Off (F.all r) H H' → BookAt T.C_Book H' r F (k.drop n) → Q .non H'
theorem ok_Book_forget (T : Txt K mg) : FO P w K mg base 1 T.a_Book_forget T.fd_Book_forget ["self", "name"] (spForget T) := by
  have sc := sc_Book_forget
  refine T.F_Book_forget.okX sc (fun vs H Q E h => ?_) (fun cdv A outer s H vs Q E hr h => ?_)
  · obtain ⟨_, _, _, _, rfl, _⟩ := h
    rfl
  · obtain ⟨r, F, k, n, rfl, hB, hk, q⟩ := h
    refine ⟨_, (pss_one (ps_if (pt_cmp (pc_din (hu_of hr) (pv 1) (pe_fld (pv 0) rfl))) (pss_cons (ps_set (i := 2) sc.nd rfl (by first | exact Or.inl rfl | exact Or.inr rfl) (pe_dpop1 (pe_fld (pv 0) rfl) (pv 1) ⟨rfl, rfl, rfl, rfl⟩))
      (pss_cons (ps_asg pe_non (pg_sub (pe_fld (pv 0) rfl) (pv 2) set_list))
      (pss_one (ps_augS (pe_fld (pv 0) rfl) (pe_op op_fdivW (pv 2) (pe_fld (pv 0) rfl)) get_list pe_int ip_sub set_list)))) pss_nil)), ?_⟩
    obtain ⟨⟨n1, n2, n3, n4, n5⟩, ⟨n6, n7, n8, n9⟩, ⟨n10, n11, n12⟩, ⟨n13, n14⟩, n15⟩ := hB.ne
    have ho := hB.obj
    have a1 := hB.wh
    have a2 := hB.nm
    have a3 := hB.lv
    have a4 := hB.fl
    have a5 := hB.bn
    have z1 := hk.nm
    have z2 := hk.live
    have z3 := hk.p
    have z4 := hk.b
    unfold bookF at ho
    unfold Bk.drop at q
    walk_at "begin"
    walk_at "go"
    rw [valV_I]
    cases hg : getI k.wh n with
    | none =>
      rw [hg] at q
      walk_at "go"
      exact q H Off.refl hB
    | some x =>
      rw [hg] at q
      have hx := hk.wh _ (getI_mem hg)
      dsimp only at hx
      have hb0 : 0 ≤ x / k.p := Int.ediv_nonneg hx.1 (by omega)
      have hb1 : x / k.p < k.b := Int.ediv_lt_of_lt_mul (by omega) hx.2
      refine iteT ?_
      walk_at "go"
      refine x_dpp1I (v := .int x) (by walk_at "hp") (by rw [valV_I, hg]; rfl) (fun H1 hO1 hI1 => ?_)
      rw [dropK_I] at hI1
      walk_at "go"
      rename_i H2 hO2 hI2 H3 hO3 hI3
      have f0 : H3 r = some (.ins T.C_Book F.dx (bookF F k)) := by unfold bookF; walk_at "hp"
      have f1 : H3 F.wh = some (.dK (kvI (dropI k.wh n))) := by walk_at "hp"
      have f2 : H3 F.nm = some (.lst (k.nm.set x.toNat .non)) := by walk_at "hp"
      have f4 : H3 F.fl = some (.lst (k.fil.map V.int)) := by walk_at "hp"
      have f5 : H3 F.bn = some (.lst (k.born.map V.int)) := by walk_at "hp"
      have one : ∀ {y : Addr} {Ha Hb : Hp}, y ∈ F.all r → Off [y] Ha Hb → Off (F.all r) Ha Hb := fun hy h => h.sub fun b hb => by rw [List.mem_singleton.mp hb]; exact hy
      exact q H3 (((one (by simp [BF.all]) hO1).trans (one (by simp [BF.all]) hO2)).trans (one (by simp [BF.all]) hO3)) ⟨f0, f1, f2, by rw [List.map_set]; exact hI3, f4, f5, hB.nd⟩
theorem BkOk.drop {k : Bk} (h : BkOk k) (n : Int) : BkOk (k.drop n) := by
  unfold Bk.drop
  split
  · exact h
  · exact ⟨h.b, h.p, by show ((k.nm.set _ _).length : Int) = _; rw [List.length_set]; exact h.nm, by show ((k.live.set _ _).length : Int) = _; rw [List.length_set]; exact h.live, h.fil, h.born, fun e he => h.wh e (List.mem_filter.mp he).1, Nat.le_trans (List.length_filter_le _ _) h.whl, h.st⟩
theorem drop_b {k : Bk} {n : Int} : (k.drop n).b = k.b := by unfold Bk.drop; split <;> rfl
theorem drop_p {k : Bk} {n : Int} : (k.drop n).p = k.p := by unfold Bk.drop; split <;> rfl
theorem drop_whl {k : Bk} {n : Int} : (k.drop n).wh.length ≤ k.wh.length := by
  unfold Bk.drop
  split
  · exact Nat.le_refl _
  · exact List.length_filter_le _ _
theorem drop_st {k : Bk} {n : Int} : (k.drop n).stamp = k.stamp := by unfold Bk.drop; split <;> rfl
theorem x_mForget {T : Txt K mg} {H : Hp} {Q : VK} {E : XK} {σ : L2.St} {r : Addr} {F : BF} {k : Bk} {t : TA} (hB : BookAt T.C_Book H r F k) (h : t σ H fun vs H2 => spForget T (.ref r :: vs) H2 Q E) : mtK P w K mg base (L2.CX P w) 1 "forget" E σ t Q (.ref r) H :=
  x_mtK hB.obj ⟨⟨_, _, _, T.cl_Book, T.m_Book_forget, ok_Book_forget T, T.bd_Book_forget⟩⟩ rfl h
def Bk.note (k : Bk) (pg n : Int) : Bk :=
  { (k.drop n) with born := (if (k.drop n).fil.getD (pg / k.p).toNat 0 = 0 then (k.drop n).born.set (pg / k.p).toNat (k.drop n).stamp else (k.drop n).born), fil := (k.drop n).fil.set (pg / k.p).toNat ((k.drop n).fil.getD (pg / k.p).toNat 0 + 1), live := (k.drop n).live.set (pg / k.p).toNat ((k.drop n).live.getD (pg / k.p).toNat 0 + 1), nm := (k.drop n).nm.set pg.toNat (.int n), wh := putI (k.drop n).wh n pg, stamp := (k.drop n).stamp + 1 }
def spNote (T : Txt K mg) : Sp := fun vs H Q _ => ∃ (r : Addr) (F : BF) (k : Bk) (pg n : Int), vs = [.ref r, .int pg, .int n] ∧ BookAt T.C_Book H r F k ∧ BkOk k ∧ 0 ≤ pg ∧ pg < k.b * k.p ∧
  ∀ H', Off (F.all r) H H' → BookAt T.C_Book H' r F (k.note pg n) → Q .non H'
theorem ok_Book_note (T : Txt K mg) : FO P w K mg base 2 T.a_Book_note T.fd_Book_note ["self", "page", "name"] (spNote T) := by
  have sc := sc_Book_note
  refine T.F_Book_note.okX sc (fun vs H Q E h => ?_) (fun cdv A outer s H vs Q E hr h => ?_)
  · obtain ⟨_, _, _, _, _, rfl, _⟩ := h
    rfl
  · obtain ⟨r, F, k, pg, n, rfl, hB, hk, h0, h1, q⟩ := h
    refine ⟨_, (pss_cons (ps_expr (pe_methD (k := 1) (pv 0) (hr.mono (by decide)) (passAt (takes_of rfl rfl rfl rfl)) (pa_cons (pv 2) pa_nil)))
      (pss_cons (ps_set (i := 3) sc.nd rfl (by first | exact Or.inl rfl | exact Or.inr rfl) (pe_op op_fdivW (pv 1) (pe_fld (pv 0) rfl)))
      (pss_cons (ps_if (pt_cmpR (op_uEq hr.units) (pe_ix ix_seq (pe_fld (pv 0) rfl) (pv 3) (fun _ _ => rfl)) pe_int (nomark _)) (pss_one (ps_asg (pe_fld (pv 0) rfl) (pg_sub (pe_fld (pv 0) rfl) (pv 3) set_list))) pss_nil)
      (pss_cons (ps_augS (pe_fld (pv 0) rfl) (pv 3) get_list pe_int ip_add set_list)
      (pss_cons (ps_augS (pe_fld (pv 0) rfl) (pv 3) get_list pe_int ip_add set_list)
      (pss_cons (ps_asg (pv 2) (pg_sub (pe_fld (pv 0) rfl) (pv 1) set_list))
      (pss_cons (ps_dput (hu_of hr) (pe_fld (pv 0) rfl) (pv 2) (pv 1) rfl)
      (pss_one (ps_fldaug (pv 0) pe_int in_add))))))))), ?_⟩
    obtain ⟨⟨n1, n2, n3, n4, n5⟩, ⟨n6, n7, n8, n9⟩, ⟨n10, n11, n12⟩, ⟨n13, n14⟩, n15⟩ := hB.ne
    have hk1 := hk.drop n
    have hpb := hk.p
    have hbb := hk.b
    have hb0 : 0 ≤ pg / k.p := Int.ediv_nonneg h0 (by omega)
    have hb1 : pg / k.p < k.b := Int.ediv_lt_of_lt_mul (by omega) h1
    have eb := drop_b (k := k) (n := n)
    have ep := drop_p (k := k) (n := n)
    unfold Bk.note at q
    walk_at "begin"
    walk_at "go"
    refine x_mForget hB ?_
    walk_at "go"
    refine ⟨r, F, k, n, rfl, hB, hk, fun H1 hO1 hB1 => ?_⟩
    generalize k.drop n = k1 at q hk1 hB1 eb ep
    have ho := hB1.obj
    have a1 := hB1.wh
    have a2 := hB1.nm
    have a3 := hB1.lv
    have a4 := hB1.fl
    have a5 := hB1.bn
    have z1 := hk1.nm
    have z2 := hk1.live
    have z3 := hk1.fil
    have z4 := hk1.born
    have z5 := hk1.whl
    rw [eb] at z1 z2 z3 z4
    rw [ep] at z1
    unfold bookF at ho
    rw [ep] at ho
    have hO1' := hO1
    clear hO1
    walk_at "go"
    refine x_join (fun σ' H2 => σ' = [some (.ref r), some (.int pg), some (.int n), some (.int (pg / k.p))] ∧ Off [F.bn] H1 H2 ∧ H2 F.bn = some (.lst ((if k1.fil.getD (pg / k.p).toNat 0 = 0 then k1.born.set (pg / k.p).toNat k1.stamp else k1.born).map V.int))) (fun R hR => ?_) ?_
    · walk_at "go"
      refine x_iteD (fun h => ?_) (fun h => ?_)
      · walk_at "go"
        rename_i H2 hO2 hI2
        exact hR _ _ ⟨rfl, hO2, by rw [if_pos h, List.map_set]; exact hI2⟩
      · walk_at "go"
        exact hR _ _ ⟨rfl, Off.refl, by rw [if_neg h]; exact a5⟩
    intro σ' H2 ⟨hσ, hO2, hI2⟩
    subst hσ
    walk_at "go"
    rename_i H3 hO3 hI3 H4 hO4 hI4 H5 hO5 hI5
    have e1 : H5 F.wh = some (.dK (kvI k1.wh)) := by walk_at "hp"
    refine x_dpI (kvs' := kvI (putI k1.wh n pg)) (by exact e1) putK_I (fun H6 hO6 hI6 => ?_) (by rw [kvI_len]; omega)
    walk_at "go"
    have e2 : H6 r = some (.ins T.C_Book F.dx [("blocks", .int k1.b), ("pages", .int k.p), ("where", .ref F.wh), ("names", .ref F.nm), ("live", .ref F.lv), ("filled", .ref F.fl), ("born", .ref F.bn), ("stamp", .int k1.stamp)]) := by walk_at "hp"
    refine x_faK e2 rfl ?_ T.cl_Book T.na_Book_stamp
    walk_at "go"
    refine x_f3O (fs' := [("blocks", .int k1.b), ("pages", .int k.p), ("where", .ref F.wh), ("names", .ref F.nm), ("live", .ref F.lv), ("filled", .ref F.fl), ("born", .ref F.bn), ("stamp", .int (k1.stamp + 1))]) e2 rfl (fun H7 hO7 hI7 => ?_) (Nat.le_of_ble_eq_true rfl)
    have f1 : H7 F.wh = some (.dK (kvI (putI k1.wh n pg))) := by walk_at "hp"
    have f2 : H7 F.nm = some (.lst (k1.nm.set pg.toNat (.int n))) := by walk_at "hp"
    have f3 : H7 F.lv = some (.lst ((k1.live.set (pg / k.p).toNat (k1.live.getD (pg / k.p).toNat 0 + 1)).map V.int)) := by rw [List.map_set]; walk_at "hp"
    have f4 : H7 F.fl = some (.lst ((k1.fil.set (pg / k.p).toNat (k1.fil.getD (pg / k.p).toNat 0 + 1)).map V.int)) := by rw [List.map_set]; walk_at "hp"
    have f5 : H7 F.bn = some (.lst ((if k1.fil.getD (pg / k.p).toNat 0 = 0 then k1.born.set (pg / k.p).toNat k1.stamp else k1.born).map V.int)) := by walk_at "hp"
    have one : ∀ {y : Addr} {Ha Hb : Hp}, y ∈ F.all r → Off [y] Ha Hb → Off (F.all r) Ha Hb := fun hy h => h.sub fun b hb => by rw [List.mem_singleton.mp hb]; exact hy
    refine q H7 (((((hO1'.trans (one (by simp [BF.all]) hO2)).trans (one (by simp [BF.all]) hO3)).trans (one (by simp [BF.all]) hO4)).trans (one (by simp [BF.all]) hO5)).trans ((one (by simp [BF.all]) hO6).trans (one (by simp [BF.all]) hO7))) ⟨?_, f1, f2, f3, f4, f5, hB.nd⟩
    rw [← ep] at hI7
    exact hI7
theorem putI_mem {ps : List (Int × Int)} {n x : Int} {e : Int × Int} (h : e ∈ putI ps n x) : e ∈ ps ∨ e.2 = x := by
  unfold putI at h
  split at h
  · obtain ⟨y, hy, rfl⟩ := List.mem_map.mp h
    split
    · exact .inr rfl
    · exact .inl hy
  · rcases List.mem_append.mp h with h | h
    · exact .inl h
    · rw [List.mem_singleton.mp h]; exact .inr rfl
theorem putI_len {ps : List (Int × Int)} {n x : Int} : (putI ps n x).length ≤ ps.length + 1 := by
  unfold putI
  split
  · rw [List.length_map]; exact Nat.le_succ _
  · rw [List.length_append]; exact Nat.le_refl _
theorem BkOk.note {k : Bk} (h : BkOk k) {pg n : Int} (h0 : 0 ≤ pg) (h1 : pg < k.b * k.p) (hl : k.wh.length < 900) (hs : k.stamp + 1 < 10 ^ 40) : BkOk (k.note pg n) := by
  have d := h.drop n
  have eb := drop_b (k := k) (n := n)
  have ep := drop_p (k := k) (n := n)
  have es := drop_st (k := k) (n := n)
  have el := drop_whl (k := k) (n := n)
  unfold Bk.note
  refine ⟨d.b, d.p, ?_, ?_, ?_, ?_, fun e he => ?_, ?_, ?_⟩
  · show (((k.drop n).nm.set _ _).length : Int) = _; rw [List.length_set]; exact d.nm
  · show (((k.drop n).live.set _ _).length : Int) = _; rw [List.length_set]; exact d.live
  · show (((k.drop n).fil.set _ _).length : Int) = _; rw [List.length_set]; exact d.fil
  · dsimp only
    split
    · rw [List.length_set]; exact d.born
    · exact d.born
  · rcases putI_mem he with he | he
    · exact d.wh e he
    · show 0 ≤ e.2 ∧ e.2 < (k.drop n).b * (k.drop n).p
      rw [he, eb, ep]; exact ⟨h0, h1⟩
  · exact Nat.le_trans putI_len (by omega)
  · show 0 ≤ (k.drop n).stamp + 1 ∧ (k.drop n).stamp + 1 < 10 ^ 40
    rw [es]
    have := h.st
    exact ⟨by omega, hs⟩
theorem x_mNote {T : Txt K mg} {H : Hp} {Q : VK} {E : XK} {σ : L2.St} {r : Addr} {F : BF} {k : Bk} {t : TA} (hB : BookAt T.C_Book H r F k) (h : t σ H fun vs H2 => spNote T (.ref r :: vs) H2 Q E) : mtK P w K mg base (L2.CX P w) 2 "note" E σ t Q (.ref r) H :=
  x_mtK hB.obj ⟨⟨_, _, _, T.cl_Book, T.m_Book_note, ok_Book_note T, T.bd_Book_note⟩⟩ rfl h
local macro_rules | `(tactic| walk_at "u") => `(tactic| ((with_reducible refine x_mark ?_ ?hs); (try (case hs => walk_at "side"))))
def spBMark (T : Txt K mg) : Sp := fun vs H Q _ => ∃ (r : Addr) (F : BF) (k : Bk) (n : Int), vs = [.ref r, .int n] ∧ BookAt T.C_Book H r F k ∧ BkOk k ∧ 0 ≤ n ∧ n < 128 ∧ Q (.int (mk k.stamp n)) H
theorem ok_Book_mark (T : Txt K mg) : FO P w K mg base 2 T.a_Book_mark T.fd_Book_mark ["self", "name"] (spBMark T) := by
  have sc := sc_Book_mark
  refine T.F_Book_mark.okX sc (fun vs H Q E h => ?_) (fun cdv A outer s H vs Q E hr h => ?_)
  · obtain ⟨_, _, _, _, rfl, _⟩ := h
    rfl
  · obtain ⟨r, F, k, n, rfl, hB, hk, h0, h1, q⟩ := h
    refine ⟨_, (pss_one (ps_ret (pe_callS (ok_mark_of T) (hr.mono (by decide)) (by rfl) T.g_mark_of T.k_mark_of T.bd_mark_of (passAt (takes_of rfl rfl rfl rfl)) (pa_cons (pe_fld (pv 0) rfl) (pa_cons (pv 1) pa_nil))))), ?_⟩
    have ho := hB.obj
    unfold bookF at ho
    have hst := hk.st
    have hs : 0 ≤ k.stamp ∧ k.stamp < 10 ^ 45 ∧ 0 ≤ n ∧ n < 128 := ⟨hst.1, Int.lt_trans hst.2 (by decide), h0, h1⟩
    walk_at "begin"
    walk_at "go"
    exact q
theorem x_mMark {T : Txt K mg} {H : Hp} {Q : VK} {E : XK} {σ : L2.St} {r : Addr} {F : BF} {k : Bk} {t : TA} (hB : BookAt T.C_Book H r F k) (h : t σ H fun vs H2 => spBMark T (.ref r :: vs) H2 Q E) : mtK P w K mg base (L2.CX P w) 2 "mark" E σ t Q (.ref r) H :=
  x_mtK hB.obj ⟨⟨_, _, _, T.cl_Book, T.m_Book_mark, ok_Book_mark T, T.bd_Book_mark⟩⟩ rfl h

/-! ### the sheets that a book holds -/
def heldL (k : Bk) : List Int := sortZ ((k.wh.map (·.1)).filter fun n => decide (n ≠ 64))
def spBHeld (T : Txt K mg) : Sp := fun vs H Q _ => ∃ (r : Addr) (F : BF) (k : Bk), vs = [.ref r] ∧ BookAt T.C_Book H r F k ∧ BkOk k ∧ ∀ p H', Same H H' → H p = none → H' p = some (.lst ((heldL k).map V.int)) → Q (.ref p) H'
theorem ok_Book_held (T : Txt K mg) : FO P w K mg base 2 T.a_Book_held T.fd_Book_held ["self"] (spBHeld T) := by
  have sc := sc_Book_held
  refine T.F_Book_held.okX sc (fun vs H Q E h => ?_) (fun cdv A outer s H vs Q E hr h => ?_)
  · obtain ⟨_, _, _, rfl, _⟩ := h
    rfl
  · obtain ⟨r, F, k, rfl, hB, hk, q⟩ := h
    refine ⟨_, (pss_one (ps_ret (pe_callB (cr_usorted) (by rfl) T.b_sorted bt_sorted (pa_cons (pe_lock (pe_lc (own := [("name", 1)]) (by rfl) sc.nd (pi_keys (pe_fld (pv 0) rfl)) (blkOk_by (own := [("name", 1)]) (N := N_Book_held) (sc := defScope s_Book_held) (by decide +kernel)) (fun _ _ _ _ _ => (pg_name (i := 1) sc.nd rfl (by first | exact Or.inl rfl | exact Or.inr rfl))) (fun _ _ _ _ _ => (pts_one (pt_cmpR (K_ne (K := K) hr.units) (pv 1) (pe_glob rfl T.g_ROLL T.r_ROLL) (nomark _)))) (fun _ _ _ _ _ => (pv 1)))) pa_nil)))), ?_⟩
    have ho := hB.obj
    unfold bookF at ho
    have n1 := hB.ne.1.1
    have hwl := hk.whl
    walk_at "begin"
    walk_at "go"
    refine x_lcDK hB.wh (fun od Q' q' => ?_) (fun i acc H' => acc = (((k.wh.map (·.1)).take i).filter fun n => decide (n ≠ 64)).map V.int) (fun _ _ _ _ _ h => h) (Nat.lt_of_le_of_lt (show _ ≤ 1000 by rw [kvI_len]; omega) (by decide)) rfl ?_ ?_
    · have ho2 := (upd_ne (H := H) (o := .frz od (.dK (kvI k.wh))) n1).trans ho
      walk_at "go"
      exact q'
    · intro i kk v acc H' hk' hO hfr ha NY NN hY hN
      unfold kvI at hk'
      rw [List.getElem?_map] at hk'
      cases he : k.wh[i]? with
      | none => rw [he] at hk'; simp at hk'
      | some e =>
        rw [he] at hk'
        simp at hk'
        obtain ⟨rfl, rfl⟩ := hk'
        have ek : (k.wh.map (·.1)).take (i + 1) = (k.wh.map (·.1)).take i ++ [e.1] := by
          rw [List.take_add_one, List.getElem?_map, he]
          rfl
        dsimp only [wipe, kV]
        walk_at "go"
        refine ⟨rfl, ?_⟩
        walk_at "go"
        by_cases h64 : e.1 = 64
        · rw [decide_eq_true h64]
          refine x_iteB (fun _ => ?_) (fun h => absurd h (by decide))
          refine hN _ (fun _ _ h => h) ?_
          show acc = _
          rw [ek, List.filter_append, List.filter_cons_of_neg (by simp [h64]), List.filter_nil, List.append_nil]
          exact ha
        · rw [decide_eq_false h64]
          refine x_iteB (fun h => absurd h (by decide)) (fun _ => ?_)
          walk_at "go"
          refine hY _ _ (fun _ _ h => h) ?_
          show acc ++ _ = _
          rw [ek, List.filter_append, List.filter_cons_of_pos (by simp [h64]), List.filter_nil, List.map_append, ha]
          rfl
    · intro p acc H1 hp hs1 hn1 ha
      rw [ha, kvI_len, ← List.length_map (f := fun e : Int × Int => e.1), List.take_length] at hn1
      walk_at "go"
      refine x_sortI (SqL.of hn1) fun p2 H2 hp2 hs2 hn2 => ?_
      exact q p2 H2 (hs1.trans hs2) (same_none hs1 hp2) hn2
theorem x_mBHeld {T : Txt K mg} {H : Hp} {Q : VK} {E : XK} {σ : L2.St} {r : Addr} {F : BF} {k : Bk} (hB : BookAt T.C_Book H r F k) (hk : BkOk k) (q : ∀ p H', Same H H' → H p = none → H' p = some (.lst ((heldL k).map V.int)) → Q (.ref p) H') : mtK P w K mg base (L2.CX P w) 2 "held" E σ tNil Q (.ref r) H :=
  x_mtK hB.obj ⟨⟨_, _, _, T.cl_Book, T.m_Book_held, ok_Book_held T, T.bd_Book_held⟩⟩ rfl ⟨r, F, k, rfl, hB, hk, q⟩

/-! ### all that a book tells -/
structure TellAt (H0 H : Hp) (q : Addr) (k : Bk) : Prop where
  ex : ∃ (p1 p2 p3 p4 : Addr) (ys : List V), (H0 p1 = none ∧ H0 p2 = none ∧ H0 p3 = none ∧ H0 p4 = none) ∧ H q = some (.tup [.ref p1, .ref p2, .ref p3, .ref p4, .int k.stamp]) ∧ H p1 = some (.lst ys) ∧ PairL H ys (sortP k.wh) ∧ H p2 = some (.lst (k.live.map V.int)) ∧ H p3 = some (.lst (k.fil.map V.int)) ∧ H p4 = some (.lst (k.born.map V.int))
theorem TellAt.mono {H0 H H' : Hp} {q : Addr} {k : Bk} (s : Same H H') (h : TellAt H0 H q k) : TellAt H0 H' q k := by
  obtain ⟨p1, p2, p3, p4, ys, n, a, b, c, d, e, f⟩ := h.ex
  exact ⟨p1, p2, p3, p4, ys, n, s _ _ a, s _ _ b, c.mono (TupS.of s), s _ _ d, s _ _ e, s _ _ f⟩
/-- what changes stood before -/
theorem TellAt.off {H0 H H' : Hp} {q : Addr} {k : Bk} {S : List Addr} (h : TellAt H0 H q k) (s : Off S H H') (hS : ∀ b ∈ S, H0 b ≠ none) (ht : TupS H H') : TellAt H0 H' q k := by
  obtain ⟨p1, p2, p3, p4, ys, ⟨n1, n2, n3, n4⟩, a, b, c, d, e, f⟩ := h.ex
  exact ⟨p1, p2, p3, p4, ys, ⟨n1, n2, n3, n4⟩, ht _ _ a, s.at b (fun z => hS _ z n1), c.mono ht, s.at d (fun z => hS _ z n2), s.at e (fun z => hS _ z n3), s.at f (fun z => hS _ z n4)⟩
def tellD (k : Bk) : PyData := .tuple [.list ((sortP k.wh).map prD), .list (k.live.map PyData.int), .list (k.fil.map PyData.int), .list (k.born.map PyData.int), .int k.stamp]
theorem tellD_sh {k : Bk} : Sh 9 (tellD k) := by
  refine Sh.tup (k := 8) fun d h => ?_
  have hi : ∀ ns : List Int, Sh 8 (.list (ns.map PyData.int)) := fun ns => Sh.list (k := 7) fun d h => by
    obtain ⟨e, _, rfl⟩ := List.mem_map.mp h
    exact Sh.int
  simp only [List.mem_cons, List.not_mem_nil, or_false] at h
  rcases h with rfl | rfl | rfl | rfl | rfl
  · exact prsSh (k := 6)
  · exact hi _
  · exact hi _
  · exact hi _
  · exact Sh.int
theorem dpIntsK {H : Hp} {ns : List Int} : DpAll K H (ns.map V.int) (ns.map PyData.int) := by
  induction ns with
  | nil => exact .nil
  | cons n ns ih => exact .cons (.int n) ih
theorem TellAt.dp {H0 H : Hp} {q : Addr} {k : Bk} (h : TellAt H0 H q k) : Dp K H (.ref q) (tellD k) := by
  obtain ⟨p1, p2, p3, p4, ys, _, a, b, c, d, e, f⟩ := h.ex
  exact .tup (SqT.of a) (.cons (c.dp b) (.cons (.lst (SqL.of d) dpIntsK) (.cons (.lst (SqL.of e) dpIntsK) (.cons (.lst (SqL.of f) dpIntsK) (.cons (.int _) .nil)))))
def spTell (T : Txt K mg) : Sp := fun vs H Q _ => ∃ (r : Addr) (F : BF) (k : Bk), vs = [.ref r] ∧ BookAt T.C_Book H r F k ∧ BkOk k ∧ k.wh.length < 64 ∧ (∀ e ∈ k.wh, 0 ≤ e.1 ∧ e.1 ≤ 64) ∧ ∀ q H', Same H H' → H q = none → TellAt H H' q k → Q (.ref q) H'
theorem ok_Book_tell (T : Txt K mg) : FO P w K mg base 1 T.a_Book_tell T.fd_Book_tell ["self"] (spTell T) := by
  have sc := sc_Book_tell
  refine T.F_Book_tell.okX sc (fun vs H Q E h => ?_) (fun cdv A outer s H vs Q E hr h => ?_)
  · obtain ⟨_, _, _, rfl, _⟩ := h
    rfl
  · obtain ⟨r, F, k, rfl, hB, hk, hl, hw, q⟩ := h
    refine ⟨_, (pss_one (ps_ret (pe_tup (pa_cons (pe_callB (cr_sortItI (B := 1000) rfl) (by rfl) T.b_sorted bt_sorted (pa_cons (pe_bm0 PySem.F.plainAttrs_dict PySem.F.slot_dict_items PySem.F.type_dict_items mt_itemsI (pe_fld (pv 0) rfl)) pa_nil)) (pa_cons (pe_callTy ct_list (by rfl) T.b_list bt_list (pa_cons (pe_fld (pv 0) rfl) pa_nil)) (pa_cons (pe_callTy ct_list (by rfl) T.b_list bt_list (pa_cons (pe_fld (pv 0) rfl) pa_nil)) (pa_cons (pe_callTy ct_list (by rfl) T.b_list bt_list (pa_cons (pe_fld (pv 0) rfl) pa_nil)) (pa_cons (pe_fld (pv 0) rfl) pa_nil)))))))), ?_⟩
    have ho := hB.obj
    have a1 := hB.wh
    have a3 := hB.lv
    have a4 := hB.fl
    have a5 := hB.bn
    have hp := hk.p
    have hb := hk.b
    have hbp : k.b * k.p ≤ 16 * 16 := Int.mul_le_mul hb.2 hp.2 (by omega) (by decide)
    unfold bookF at ho
    walk_at "begin"
    walk_at "go"
    refine x_itemsI a1 fun v1 H1 hv1 hs1 hi1 => ?_
    walk_at "go"
    refine x_sortItI hi1 (hs1 _ _ a1) hl (fun e he => ?_) fun p1 ys H2 hp1 hs2 hn2 hpl => ?_
    · have h1 := hw e he
      have h2 := hk.wh e he
      intro m hm
      simp only [List.mem_cons, List.not_mem_nil, or_false] at hm
      rcases hm with rfl | rfl <;> omega
    have s02 := hs1.trans hs2
    have a32 := s02 _ _ a3
    have a42 := s02 _ _ a4
    have a52 := s02 _ _ a5
    have ho2 := s02 _ _ ho
    have hs1' := hs1
    clear hs1 hs2
    have hs1'' := hs1'
    clear hs1'
    walk_at "go"
    have hs1' := hs1''
    rename_i p2 H3 hp2 hs3 hn3 p3 H4 hp3 hs4 hn4 p4 H5 hp4 hs5 hn5 pt H6 hpt hs6 hn6
    have s26 := ((hs3.trans hs4).trans hs5).trans hs6
    exact q pt H6 (s02.trans s26) (same_none (((s02.trans hs3).trans hs4).trans hs5) hpt) ⟨p1, p2, p3, p4, ys, ⟨same_none hs1' hp1, same_none s02 hp2, same_none (s02.trans hs3) hp3, same_none ((s02.trans hs3).trans hs4) hp4⟩, hn6, s26 _ _ hn2, hpl.mono (TupS.of s26), hs6 _ _ (hs5 _ _ (hs4 _ _ hn3)), hs6 _ _ (hs5 _ _ hn4), hs6 _ _ hn5⟩
theorem x_mTell {T : Txt K mg} {H : Hp} {Q : VK} {E : XK} {σ : L2.St} {r : Addr} {F : BF} {k : Bk} (hB : BookAt T.C_Book H r F k) (hk : BkOk k) (hl : k.wh.length < 64) (hw : ∀ e ∈ k.wh, 0 ≤ e.1 ∧ e.1 ≤ 64) (q : ∀ q H', Same H H' → H q = none → TellAt H H' q k → Q (.ref q) H') : mtK P w K mg base (L2.CX P w) 1 "tell" E σ tNil Q (.ref r) H :=
  x_mtK hB.obj ⟨⟨_, _, _, T.cl_Book, T.m_Book_tell, ok_Book_tell T, T.bd_Book_tell⟩⟩ rfl ⟨r, F, k, rfl, hB, hk, hl, hw, q⟩
theorem x_neTell {H0 H1 H : Hp} {p q : Addr} {k : Bk} {Q : VK} (h1 : TellAt H0 H p k) (h2 : TellAt H1 H q k) (x : Q (.bl false) H) : uNe K (.ref p) (.ref q) H Q := x_neS2 h1.dp h2.dp tellD_sh x
theorem x_eqTell {H0 H1 H : Hp} {p q : Addr} {k : Bk} {Q : VK} (h1 : TellAt H0 H p k) (h2 : TellAt H1 H q k) (x : Q (.bl true) H) : uEq K (.ref p) (.ref q) H Q := x_eqS2 h1.dp h2.dp tellD_sh x

/-! ### tallies -/
structure Tal where
  b : Int
  l : Int
  c : Int
  o : Int
def Tal.vs (t : Tal) : List V := [.int t.b, .int t.l, .int t.c, .int t.o]
def TalAt (H : Hp) (v : V) (t : Tal) : Prop := ∃ a, v = .ref a ∧ H a = some (.tup t.vs)
def TAll (H : Hp) (vs : List V) (ts : List Tal) : Prop := vs.length = ts.length ∧ ∀ (i : Nat) v t, vs[i]? = some v → ts[i]? = some t → TalAt H v t
/-- a list of tallies -/
def TL (H : Hp) (p : Addr) (ts : List Tal) : Prop := ∃ vs, H p = some (.lst vs) ∧ TAll H vs ts
theorem TalAt.mono {H H' : Hp} {v : V} {t : Tal} (s : TupS H H') (h : TalAt H v t) : TalAt H' v t := by
  obtain ⟨a, e, h⟩ := h
  exact ⟨a, e, s _ _ h⟩
theorem TAll.mono {H H' : Hp} {vs : List V} {ts : List Tal} (s : TupS H H') (h : TAll H vs ts) : TAll H' vs ts := ⟨h.1, fun i v t h1 h2 => (h.2 i v t h1 h2).mono s⟩
theorem TL.mono {H H' : Hp} {p : Addr} {ts : List Tal} (s : Same H H') (h : TL H p ts) : TL H' p ts := by
  obtain ⟨vs, e, h⟩ := h
  exact ⟨vs, s _ _ e, h.mono (TupS.of s)⟩
theorem TAll.nil {H : Hp} : TAll H [] [] := ⟨rfl, fun i v t h _ => by simp at h⟩
theorem TAll.snoc {H : Hp} {vs : List V} {ts : List Tal} {v : V} {t : Tal} (h : TAll H vs ts) (hv : TalAt H v t) : TAll H (vs ++ [v]) (ts ++ [t]) := by
  refine ⟨by simp [h.1], fun i x y h1 h2 => ?_⟩
  by_cases hi : i < vs.length
  · rw [List.getElem?_append_left hi] at h1
    rw [List.getElem?_append_left (h.1 ▸ hi)] at h2
    exact h.2 i x y h1 h2
  · have e : i = vs.length := by
      have := (List.getElem?_eq_some_iff.mp h1).1
      simp at this
      omega
    subst e
    rw [List.getElem?_append_right (Nat.le_refl _)] at h1
    rw [h.1, List.getElem?_append_right (Nat.le_refl _)] at h2
    simp at h1 h2
    subst h1 h2
    exact hv
theorem TAll.get {H : Hp} {vs : List V} {ts : List Tal} (h : TAll H vs ts) {i : Nat} {v : V} (hi : vs[i]? = some v) : ∃ t, ts[i]? = some t ∧ TalAt H v t := by
  have hl := (List.getElem?_eq_some_iff.mp hi).1
  have hl2 : i < ts.length := h.1 ▸ hl
  exact ⟨ts[i], List.getElem?_eq_getElem hl2, h.2 i v _ hi (List.getElem?_eq_getElem hl2)⟩

/-! ### tallies as data -/
def Tal.data (t : Tal) : PyData := .tuple [.int t.b, .int t.l, .int t.c, .int t.o]
theorem TalAt.dp {H : Hp} {v : V} {t : Tal} (h : TalAt H v t) : Dp K H v t.data := by
  obtain ⟨a, rfl, h⟩ := h
  exact .tup (SqT.of h) (.cons (.int _) (.cons (.int _) (.cons (.int _) (.cons (.int _) .nil))))
def tdata (ts : List Tal) : PyData := .list (ts.map Tal.data)
theorem tdata_sh (ts : List Tal) : Sh 9 (tdata ts) := by
  refine Sh.list (k := 8) fun d h => ?_
  obtain ⟨t, _, rfl⟩ := List.mem_map.mp h
  refine Sh.tup (k := 7) fun d h => ?_
  simp only [List.mem_cons, List.not_mem_nil, or_false] at h
  rcases h with rfl | rfl | rfl | rfl <;> exact Sh.int
theorem TAll.dp {H : Hp} {vs : List V} {ts : List Tal} (h : TAll H vs ts) : DpAll K H vs (ts.map Tal.data) := by
  refine dpAll_of (by rw [List.length_map]; exact h.1) fun i v d h1 h2 => ?_
  rw [List.getElem?_map] at h2
  cases e : ts[i]? with
  | none => rw [e] at h2; simp at h2
  | some t =>
    rw [e] at h2
    simp at h2
    subst h2
    exact (h.2 i v t h1 e).dp
theorem TL.dp {H : Hp} {p : Addr} {ts : List Tal} (h : TL H p ts) : Dp K H (.ref p) (tdata ts) := by
  obtain ⟨vs, e, h⟩ := h
  exact .lst (SqL.of e) h.dp
theorem TL.eq {H : Hp} {p q : Addr} {ts : List Tal} {Q : VK} (h1 : TL H p ts) (h2 : TL H q ts) (k : Q (.bl true) H) : uEq K (.ref p) (.ref q) H Q := x_eqS2 h1.dp h2.dp (tdata_sh ts) k
theorem TL.ne {H : Hp} {p q : Addr} {ts : List Tal} {Q : VK} (h1 : TL H p ts) (h2 : TL H q ts) (k : Q (.bl false) H) : uNe K (.ref p) (.ref q) H Q := x_neS2 h1.dp h2.dp (tdata_sh ts) k
theorem TL.eqNil {H : Hp} {p q : Addr} {ts : List Tal} {Q : VK} (h1 : TL H p ts) (h2 : H q = some (.lst [])) (k : Q (.bl ts.isEmpty) H) : uEq K (.ref p) (.ref q) H Q := by
  refine x_eqD h1.dp (.lst (SqL.of h2) .nil) (tdata_sh ts) (Sh.list (k := 8) fun d h => by simp at h) ?_
  cases ts with
  | nil => exact k
  | cons t ts => exact k
theorem TalAt.ne {H : Hp} {v : V} {t : Tal} (h : TalAt H v t) : ∃ a, v = .ref a ∧ SqT K H a t.vs := by
  obtain ⟨a, rfl, h⟩ := h
  exact ⟨a, rfl, SqT.of h⟩
theorem TAll.sub {H : Hp} {vs : List V} {ts : List Tal} (h : TAll H vs ts) (k : Nat) : TAll H (vs.drop k) (ts.drop k) := ⟨by rw [List.length_drop, List.length_drop, h.1], fun i v t h1 h2 => by
  rw [List.getElem?_drop] at h1 h2
  exact h.2 _ v t h1 h2⟩
theorem TAll.take {H : Hp} {vs : List V} {ts : List Tal} (h : TAll H vs ts) (k : Nat) : TAll H (vs.take k) (ts.take k) := ⟨by rw [List.length_take, List.length_take, h.1], fun i v t h1 h2 => by
  rw [List.getElem?_take] at h1 h2
  split at h1
  · rename_i hk
    rw [if_pos hk] at h2
    exact h.2 _ v t h1 h2
  · simp at h1⟩

/-! ### rules -/
def TOk (pages now : Int) (t : Tal) : Prop := 0 ≤ t.b ∧ t.b < 16 ∧ 0 ≤ t.l ∧ t.l ≤ pages ∧ 0 ≤ t.c ∧ t.c < 10 ^ 30 ∧ 0 ≤ t.o ∧ t.o < now
def PN (pages now : Int) : Prop := 1 ≤ pages ∧ pages ≤ 16 ∧ 1 ≤ now ∧ now < 10 ^ 30
/-- what goes_ahead of a rule tells: is g t u, and what it makes stays apart -/
def spGA (g : Int → Int → Tal → Tal → Bool) : Sp := fun vs H Q _ => ∃ (self one other : V) (t u : Tal) (pages now : Int), vs = [self, one, other, .int pages, .int now] ∧ TalAt H one t ∧ TalAt H other u ∧ TOk pages now t ∧ TOk pages now u ∧ PN pages now ∧
  ∀ H', Same H H' → Q (.bl (g pages now t u)) H'
/-- the same, of the object at r, as long as I is so -/
def spGAr (r : Addr) (I : Hp → Prop) (g : Int → Int → Tal → Tal → Bool) : Sp := fun vs H Q _ => ∃ (one other : V) (t u : Tal) (pages now : Int), vs = [.ref r, one, other, .int pages, .int now] ∧ I H ∧ TalAt H one t ∧ TalAt H other u ∧ TOk pages now t ∧ TOk pages now u ∧ PN pages now ∧
  ∀ H', Same H H' → Q (.bl (g pages now t u)) H'
/-- an object with such a rule: rf, what it leans on; n, its level -/
def RuleOb (P : Program) (w : World) (K : PySem.W.Frag) (mg : Str → Option Value) (base : Heap) (n : Nat) (g : Int → Int → Tal → Tal → Bool) (H : Hp) (rf : List Addr) (r : Addr) : Prop :=
  r ∈ rf ∧ (∀ a ∈ rf, ∃ o, H a = some o ∧ ∀ xs, o ≠ .tup xs) ∧ ∃ C dx fs I, H r = some (.ins C dx fs) ∧ fs.lookup (Str.ofString "goes_ahead") = none ∧ fs.lookup (Str.ofString "choose") = none ∧
    (∀ H1 H2 : Hp, (∀ a ∈ rf, ∀ o, H1 a = some o → H2 a = some o) → I H1 → I H2) ∧ I H ∧ MO P w K mg base (L2.CX P w) n C "goes_ahead" (spGAr r I g)
theorem RuleOb.keep {n : Nat} {g : Int → Int → Tal → Tal → Bool} {H H' : Hp} {rf : List Addr} {r : Addr} (k : ∀ a ∈ rf, ∀ o, H a = some o → H' a = some o) (h : RuleOb P w K mg base n g H rf r) : RuleOb P w K mg base n g H' rf r := by
  obtain ⟨m, t, C, dx, fs, I, e, l1, l2, st, i, mo⟩ := h
  exact ⟨m, fun a ha => let ⟨o, e, z⟩ := t a ha; ⟨o, k a ha o e, z⟩, C, dx, fs, I, k r m _ e, l1, l2, st, st H H' k i, mo⟩
theorem RuleOb.mono {n : Nat} {g : Int → Int → Tal → Tal → Bool} {H H' : Hp} {rf : List Addr} {r : Addr} (s : Same H H') (h : RuleOb P w K mg base n g H rf r) : RuleOb P w K mg base n g H' rf r := h.keep fun a _ o e => s a o e
/-- a rule that leans on nothing -/
theorem ruleOb1 {n : Nat} {g : Int → Int → Tal → Tal → Bool} {H : Hp} {r C dx : Addr} (h : H r = some (.ins C dx [])) (m : MO P w K mg base (L2.CX P w) n C "goes_ahead" (spGA g)) : RuleOb P w K mg base n g H [r] r := by
  refine ⟨List.mem_cons_self, fun a ha => ⟨.ins C dx [], by rw [List.mem_singleton.mp ha]; exact h, fun xs z => (by cases z)⟩, C, dx, [], fun _ => True, h, rfl, rfl, fun _ _ _ _ => trivial, trivial, ?_⟩
  obtain ⟨⟨f, fd, ps, c1, c2, c3, c4⟩⟩ := m
  exact ⟨⟨f, fd, ps, c1, c2, c3.imp fun vs H Q E ⟨one, other, t, u, pages, now, e, _, z⟩ => ⟨_, one, other, t, u, pages, now, e, z⟩, c4⟩⟩
/-- the first of those that no later one goes ahead of -/
def pickL (g : Tal → Tal → Bool) (b : Tal) (ts : List Tal) : Tal := ts.foldl (fun b u => if g u b = true then u else b) b
def pick (g : Tal → Tal → Bool) : List Tal → Tal
  | [] => ⟨0, 0, 0, 0⟩
  | t :: ts => pickL g t ts
theorem pickL_mem (g : Tal → Tal → Bool) : ∀ (ts : List Tal) (b : Tal), pickL g b ts = b ∨ pickL g b ts ∈ ts
  | [], b => .inl rfl
  | t :: ts, b => by
    show pickL g (if g t b = true then t else b) ts = b ∨ _
    rcases pickL_mem g ts (if g t b = true then t else b) with h | h
    · rw [h]
      show _ ∨ pickL g (if g t b = true then t else b) ts ∈ _
      rw [h]
      by_cases hg : g t b = true
      · rw [if_pos hg]; exact .inr List.mem_cons_self
      · rw [if_neg hg]; exact .inl rfl
    · exact .inr (List.mem_cons_of_mem _ h)
theorem pickL_snoc (g : Tal → Tal → Bool) (b t : Tal) (ts : List Tal) : pickL g b (ts ++ [t]) = if g t (pickL g b ts) = true then t else pickL g b ts := by
  unfold pickL
  rw [List.foldl_append]
  rfl
def spChoose (P : Program) (w : World) (K : PySem.W.Frag) (mg : Str → Option Value) (base : Heap) : Sp := fun vs H Q _ => ∃ (r p : Addr) (pages now : Int) (ts : List Tal) (g : Int → Int → Tal → Tal → Bool) (rf : List Addr), vs = [.ref r, .ref p, .int pages, .int now] ∧ RuleOb P w K mg base 17 g H rf r ∧ TL H p ts ∧ ts ≠ [] ∧ (∀ t ∈ ts, TOk pages now t) ∧ ts.length ≤ 16 ∧ PN pages now ∧
  ∀ H', Same H H' → Q (.int (pick (g pages now) ts).b) H'

/-! ### what a store holds -/
theorem getI_cons {e : Int × Int} {ps : List (Int × Int)} {n : Int} : getI (e :: ps) n = if e.1 = n then some e.2 else getI ps n := by
  unfold getI
  rw [List.find?_cons]
  by_cases h : e.1 = n
  · rw [decide_eq_true h, if_pos h]; rfl
  · rw [decide_eq_false h, if_neg h]
theorem getI_key {n : Int} : ∀ {ps : List (Int × Int)}, getI ps n = none ↔ n ∉ ps.map (·.1)
  | [] => by simp [getI]
  | e :: ps => by
    rw [getI_cons, List.map_cons, List.mem_cons]
    by_cases h : e.1 = n
    · rw [if_pos h]
      exact ⟨fun z => (by cases z), fun z => absurd (.inl h.symm) z⟩
    · rw [if_neg h, getI_key]
      exact ⟨fun z y => y.elim (fun y => h y.symm) z, fun z y => z (.inr y)⟩
theorem getI_of_mem {ps : List (Int × Int)} (hn : (ps.map (·.1)).Nodup) {n x : Int} (h : (n, x) ∈ ps) : getI ps n = some x := by
  induction ps with
  | nil => cases h
  | cons e ps ih =>
    rw [List.map_cons, List.nodup_cons] at hn
    rw [getI_cons]
    rcases List.mem_cons.mp h with rfl | h
    · rw [if_pos rfl]
    · rw [if_neg (fun z => hn.1 (by rw [z]; exact List.mem_map.mpr ⟨_, h, rfl⟩))]
      exact ih hn.2 h
theorem getI_put {n x m : Int} : ∀ {ps : List (Int × Int)}, getI (putI ps n x) m = if m = n then some x else getI ps m := by
  have hmap : ∀ ps : List (Int × Int), n ∈ ps.map (·.1) → getI (ps.map fun e => if e.1 = n then (e.1, x) else e) m = if m = n then some x else getI ps m := by
    intro ps
    induction ps with
    | nil => intro h; cases h
    | cons e ps ih =>
      intro h
      rw [List.map_cons, getI_cons, getI_cons]
      by_cases he : e.1 = n
      · rw [if_pos he]
        dsimp only
        by_cases hm : m = n
        · rw [if_pos (by rw [he, hm]), if_pos hm]
        · rw [if_neg (fun z => hm (by rw [← z, he])), if_neg hm, if_neg (fun z => hm (by rw [← z, he]))]
          by_cases h2 : n ∈ ps.map (·.1)
          · rw [ih h2, if_neg hm]
          · have : (ps.map fun e => if e.1 = n then (e.1, x) else e) = ps := by
              conv => rhs; rw [← List.map_id ps]
              refine List.map_congr_left fun y hy => ?_
              rw [if_neg (fun z => h2 (by rw [← z]; exact List.mem_map.mpr ⟨_, hy, rfl⟩))]
              rfl
            rw [this]
      · rw [if_neg he]
        have h2 : n ∈ ps.map (·.1) := by
          rcases List.mem_cons.mp h with h | h
          · exact absurd h.symm he
          · exact h
        by_cases hem : e.1 = m
        · rw [if_pos hem, if_neg (fun z => he (by rw [hem, z])), if_pos hem]
        · rw [if_neg hem, if_neg hem]
          exact ih h2
  intro ps
  unfold putI
  split
  · rename_i h
    refine hmap ps ?_
    obtain ⟨e, he, h⟩ := List.any_eq_true.mp h
    exact List.mem_map.mpr ⟨e, he, of_decide_eq_true h⟩
  · rename_i h
    have hk : n ∉ ps.map (·.1) := fun z => h (by
      obtain ⟨e, he, h⟩ := List.mem_map.mp z
      exact List.any_eq_true.mpr ⟨e, he, decide_eq_true h⟩)
    clear hmap h
    induction ps with
    | nil =>
      rw [List.nil_append, getI_cons]
      by_cases hm : m = n
      · rw [if_pos hm, if_pos hm.symm]
      · rw [if_neg hm, if_neg (fun z => hm z.symm)]
    | cons e ps ih =>
      rw [List.map_cons, List.mem_cons, not_or] at hk
      rw [List.cons_append, getI_cons, getI_cons, ih hk.2]
      by_cases hem : e.1 = m
      · rw [if_pos hem, if_pos hem, if_neg (fun z => hk.1 (by rw [← z, hem]))]
      · rw [if_neg hem, if_neg hem]
theorem getI_drop {n m : Int} {ps : List (Int × Int)} : getI (dropI ps n) m = if m = n then none else getI ps m := by
  unfold dropI
  induction ps with
  | nil =>
    rw [List.filter_nil]
    split <;> rfl
  | cons e ps ih =>
    by_cases he : e.1 = n
    · rw [List.filter_cons_of_neg (by simp [he]), ih, getI_cons]
      by_cases hm : m = n
      · rw [if_pos hm, if_pos hm]
      · rw [if_neg hm, if_neg hm, if_neg (fun z => hm (by rw [← z, he]))]
    · rw [List.filter_cons_of_pos (by simp [he]), getI_cons, getI_cons, ih]
      by_cases hem : e.1 = m
      · rw [if_pos hem, if_pos hem, if_neg (fun z => he (by rw [hem, z]))]
      · rw [if_neg hem, if_neg hem]
theorem put_keys {ps : List (Int × Int)} {n x : Int} : (putI ps n x).map (·.1) = if n ∈ ps.map (·.1) then ps.map (·.1) else ps.map (·.1) ++ [n] := by
  unfold putI
  by_cases h : n ∈ ps.map (·.1)
  · have h2 : (ps.any fun e => decide (e.1 = n)) = true := by
      obtain ⟨e, he, h⟩ := List.mem_map.mp h
      exact List.any_eq_true.mpr ⟨e, he, decide_eq_true h⟩
    rw [if_pos h2, if_pos h, List.map_map]
    refine List.map_congr_left fun e _ => ?_
    show (if e.1 = n then (e.1, x) else e).1 = e.1
    split <;> rfl
  · have h2 : ¬ (ps.any fun e => decide (e.1 = n)) = true := fun z => h (by
      obtain ⟨e, he, h⟩ := List.any_eq_true.mp z
      exact List.mem_map.mpr ⟨e, he, of_decide_eq_true h⟩)
    rw [if_neg h2, if_neg h, List.map_append]
    rfl
theorem put_nodup {ps : List (Int × Int)} {n x : Int} (h : (ps.map (·.1)).Nodup) : ((putI ps n x).map (·.1)).Nodup := by
  rw [put_keys]
  split
  · exact h
  · rename_i hn
    rw [List.nodup_append]
    exact ⟨h, by simp, fun a ha b hb => by rw [List.mem_singleton.mp hb]; exact fun z => hn (z ▸ ha)⟩
theorem put_key_mem {ps : List (Int × Int)} {n x m : Int} : m ∈ (putI ps n x).map (·.1) ↔ m = n ∨ m ∈ ps.map (·.1) := by
  rw [put_keys]
  split
  · rename_i h
    exact ⟨.inr, fun z => z.elim (fun z => z ▸ h) id⟩
  · rw [List.mem_append, List.mem_singleton]
    exact Or.comm
theorem drop_nodup {ps : List (Int × Int)} {n : Int} (h : (ps.map (·.1)).Nodup) : ((dropI ps n).map (·.1)).Nodup := List.Nodup.sublist (List.Sublist.map _ List.filter_sublist) h
theorem drop_wh {k : Bk} {n m : Int} : getI (k.drop n).wh m = if m = n then none else getI k.wh m := by
  unfold Bk.drop
  split
  · rename_i h
    by_cases hm : m = n
    · rw [if_pos hm, hm, h]
    · rw [if_neg hm]
  · exact getI_drop
theorem drop_whn {k : Bk} {n : Int} (h : (k.wh.map (·.1)).Nodup) : ((k.drop n).wh.map (·.1)).Nodup := by
  unfold Bk.drop
  split
  · exact h
  · exact drop_nodup h
theorem drop_whm {k : Bk} {n : Int} : ∀ e ∈ (k.drop n).wh, e ∈ k.wh := by
  unfold Bk.drop
  split
  · exact fun e he => he
  · exact fun e he => (List.mem_filter.mp he).1
theorem note_wh {k : Bk} {pg n m : Int} : getI (k.note pg n).wh m = if m = n then some pg else getI k.wh m := by
  show getI (putI (k.drop n).wh n pg) m = _
  rw [getI_put, drop_wh]
  by_cases hm : m = n
  · rw [if_pos hm, if_pos hm]
  · rw [if_neg hm, if_neg hm, if_neg hm]
theorem note_whn {k : Bk} {pg n : Int} (h : (k.wh.map (·.1)).Nodup) : ((k.note pg n).wh.map (·.1)).Nodup := put_nodup (drop_whn h)
theorem note_whm {k : Bk} {pg n : Int} {A : Int → Prop} (h : ∀ e ∈ k.wh, A e.1) (hn : A n) : ∀ e ∈ (k.note pg n).wh, A e.1 := fun e he => by
  have : e.1 ∈ (putI (k.drop n).wh n pg).map (·.1) := List.mem_map.mpr ⟨e, he, rfl⟩
  rcases put_key_mem.mp this with z | z
  · rw [z]; exact hn
  · obtain ⟨y, hy, hye⟩ := List.mem_map.mp z
    rw [← hye]
    exact h y (drop_whm y hy)
/-- unlike numbers below a bound -/
theorem nodup_le : ∀ {N : Nat} {l : List Int}, l.Nodup → (∀ x ∈ l, 0 ≤ x ∧ x < (N : Int)) → l.length ≤ N
  | 0, l, _, h => by
    cases l with
    | nil => exact Nat.le_refl _
    | cons x l =>
      have := h x List.mem_cons_self
      omega
  | N + 1, l, hn, h => by
    have h1 := nodup_le (N := N) (l := l.erase (N : Int)) (hn.erase _) fun x hx => by
      have hx2 := (hn.mem_erase_iff).mp hx
      have := h x hx2.2
      have := hx2.1
      omega
    have h2 : l.length ≤ (l.erase (N : Int)).length + 1 := by
      rw [List.length_erase]
      split <;> omega
    omega
theorem sortZ_len {l : List Int} : (sortZ l).length = l.length := (sortZ_perm l).length_eq
/-- a number below a bound that is not among unlike ones below it -/
theorem nodup_lt {N : Nat} {l : List Int} {n : Int} (hn : l.Nodup) (h : ∀ x ∈ l, 0 ≤ x ∧ x < (N : Int)) (h1 : n ∉ l) (h2 : 0 ≤ n ∧ n < (N : Int)) : l.length < N := by
  have := nodup_le (N := N) (l := n :: l) (List.nodup_cons.mpr ⟨h1, hn⟩) fun x hx => by
    rcases List.mem_cons.mp hx with rfl | hx
    · exact h2
    · exact h x hx
  rw [List.length_cons] at this
  omega
theorem getD_set {α : Type} {l : List α} {n m : Nat} {x d : α} (h : n < l.length) : (l.set n x).getD m d = if m = n then x else l.getD m d := by
  by_cases e : m = n
  · subst e
    rw [if_pos rfl, List.getD_eq_getElem?_getD, List.getElem?_set_self h]
    rfl
  · rw [if_neg e, List.getD_eq_getElem?_getD, List.getElem?_set_ne (Ne.symm e), ← List.getD_eq_getElem?_getD]
theorem drop_fil {k : Bk} {n : Int} : (k.drop n).fil = k.fil := by unfold Bk.drop; split <;> rfl
theorem note_fil {k : Bk} {pg n : Int} : (k.note pg n).fil = k.fil.set (pg / k.p).toNat (k.fil.getD (pg / k.p).toNat 0 + 1) := by
  show (k.drop n).fil.set _ ((k.drop n).fil.getD _ 0 + 1) = _
  rw [drop_fil]
theorem note_st {k : Bk} {pg n : Int} : (k.note pg n).stamp = k.stamp + 1 := by
  show (k.drop n).stamp + 1 = _
  rw [drop_st]
theorem note_whl {k : Bk} {pg n : Int} : (k.note pg n).wh.length ≤ k.wh.length + 1 := Nat.le_trans putI_len (Nat.succ_le_succ drop_whl)
theorem note_bp {k : Bk} {pg n : Int} : (k.note pg n).b = k.b ∧ (k.note pg n).p = k.p := ⟨drop_b, drop_p⟩
theorem getD_set' {α : Type} {l : List α} {n m : Nat} {x d : α} : (l.set n x).getD m d = if m = n ∧ n < l.length then x else l.getD m d := by
  by_cases h : n < l.length
  · rw [getD_set h]
    by_cases e : m = n
    · rw [if_pos e, if_pos ⟨e, h⟩]
    · rw [if_neg e, if_neg (fun z => e z.1)]
  · rw [if_neg (fun z => h z.2), List.set_eq_of_length_le (by omega)]
theorem note_nm {k : Bk} {pg n : Int} : (k.note pg n).nm = (k.drop n).nm.set pg.toNat (.int n) := rfl
theorem drop_nm {k : Bk} {n : Int} : (k.drop n).nm = match getI k.wh n with
    | none => k.nm
    | some x => k.nm.set x.toNat .non := by
  unfold Bk.drop
  cases getI k.wh n <;> rfl
theorem drop_nml {k : Bk} {n : Int} : (k.drop n).nm.length = k.nm.length := by
  rw [drop_nm]
  split
  · rfl
  · rw [List.length_set]
theorem drop_st' {k : Bk} {n : Int} : (k.drop n).stamp = k.stamp := drop_st

/-! ### terms and addresses of a store -/
structure Ts where
  b : Int
  p : Int
  s : Int
  h : Int
  i : Int
  z : Int
def termF (t : Ts) : List (Str × V) := [("blocks", .int t.b), ("pages", .int t.p), ("sheets", .int t.s), ("share", .int t.h), ("ill", .int t.i), ("spread", .int t.z)]
def goneL (k : Bk) (ns : List Int) : List Int := (heldL k).filter fun n => decide (n ∈ ns)
def keptL (k : Bk) (g : List Int) : List Int := (heldL k).filter fun n => !decide (n ∈ g)
def Bk.drops (k : Bk) (l : List Int) : Bk := l.foldl (fun k n => k.drop n) k
def bitsI (l : List Int) : Int := ((bitsN (l.map Int.toNat) : Nat) : Int)
theorem heldL_mem {k : Bk} {n : Int} : n ∈ heldL k ↔ (∃ pg, (n, pg) ∈ k.wh) ∧ n ≠ 64 := by
  unfold heldL
  rw [(sortZ_perm _).mem_iff, List.mem_filter, List.mem_map]
  constructor
  · rintro ⟨⟨e, he, rfl⟩, h⟩
    exact ⟨⟨e.2, he⟩, of_decide_eq_true h⟩
  · rintro ⟨⟨pg, he⟩, h⟩
    exact ⟨⟨_, he, rfl⟩, decide_eq_true h⟩
theorem heldL_len {k : Bk} : (heldL k).length ≤ k.wh.length := by
  unfold heldL
  rw [(sortZ_perm _).length_eq]
  exact Nat.le_trans (List.length_filter_le _ _) (by rw [List.length_map]; exact Nat.le_refl _)
/-! ### a store with no heap: a chip, a book, papers, a rule -/
structure Pc where
  b : Int
  p : Int
  m : Int
  lasts : List V
  ct : List (Option (Int × Int))
  tried : List Int
  clr : List Int
  broken : List Bool
  left : Option Int
  log : List (Str × Int × Bool)
def Pc.toC (q : Pc) (st : List V) : Cs := ⟨q.b, q.p, q.m, q.lasts, st, q.tried, q.clr, q.broken, q.left, q.log⟩
/-- what a chip's list of pages bears -/
def StfAt (H : Hp) (st : List V) (ct : List (Option (Int × Int))) : Prop := st.length = ct.length ∧ ∀ i : Nat, i < st.length → (ct.getD i none = none ∧ st.getD i .non = .non) ∨ ∃ (a : Addr) (m x : Int), ct.getD i none = some (m, x) ∧ st.getD i .non = .ref a ∧ H a = some (.tup [.int m, .int x])
theorem StfAt.mono {H H' : Hp} {st : List V} {ct : List (Option (Int × Int))} (s : TupS H H') (h : StfAt H st ct) : StfAt H' st ct := ⟨h.1, fun i hi => (h.2 i hi).imp id fun ⟨a, m, x, h1, h2, h3⟩ => ⟨a, m, x, h1, h2, s _ _ h3⟩⟩
def ChipP (C : Addr) (H : Hp) (r : Addr) (F : CF) (q : Pc) : Prop := ∃ st, ChipAt C H r F (q.toC st) ∧ StfAt H st q.ct
theorem ChipP.mono {C : Addr} {H H' : Hp} {r : Addr} {F : CF} {q : Pc} (s : Same H H') (h : ChipP C H r F q) : ChipP C H' r F q := by
  obtain ⟨st, h1, h2⟩ := h
  exact ⟨st, h1.mono s, h2.mono (TupS.of s)⟩
theorem ChipP.off {C : Addr} {H H' : Hp} {r : Addr} {F : CF} {q : Pc} {S : List Addr} (h : ChipP C H r F q) (s : Off S H H') (n : ∀ a, a ∈ F.all r → a ∉ S) (ht : TupS H H') : ChipP C H' r F q := by
  obtain ⟨st, h1, h2⟩ := h
  exact ⟨st, h1.off s n ht, h2.mono ht⟩
theorem ChipP.there {C : Addr} {H : Hp} {r : Addr} {F : CF} {q : Pc} (h : ChipP C H r F q) : ∀ a ∈ F.all r, ∃ o, H a = some o ∧ ∀ xs, o ≠ .tup xs := by
  obtain ⟨st, h1, _⟩ := h
  exact h1.there
def Pc.dark (q : Pc) : Bool := decide (q.left = some 0)
def Pc.well (q : Pc) (n : Nat) (worn : Bool) : Bool := !worn && !decide (V.int (q.tried.getD n 0) = q.lasts.getD n .non)
def Pc.tick (q : Pc) (n : Nat) (well : Bool) : Pc := { q with left := q.left.map (· - 1), tried := q.tried.set n (q.tried.getD n 0 + 1), broken := q.broken.set n (!well) }
def Pc.said (q : Pc) (n : Nat) (w : Bool) (e : Str × Int) : Pc := { q.tick n w with log := q.log ++ [(e.1, e.2, w)] }
/-- refusals -/
inductive Rf
  | dark
  | failed (b : Int)
  | noroom
  | wornout
  | full
  | nosheet
  | novalue
  | stuck
/-- a put on a clear page of a good block -/
def Pc.putP (q : Pc) (pg : Int) (e : Int × Int) : Option Rf × Pc :=
  if q.dark = true then (some .dark, q) else if q.well (pg / q.p).toNat false = true then (none, { q.said (pg / q.p).toNat true ("put", pg) with ct := q.ct.set pg.toNat (some e) }) else (some (.failed (pg / q.p)), q.said (pg / q.p).toNat false ("put", pg))
def blankP (l : List (Option (Int × Int))) (s : Nat) : Nat → List (Option (Int × Int))
  | 0 => l
  | i + 1 => (blankP l s i).set (s + i) none
/-- a wipe of a block -/
def Pc.wipeP (q : Pc) (n : Int) : Option Rf × Pc :=
  if q.dark = true then (some .dark, q) else if q.broken.getD n.toNat false = true then (some (.failed n), q)
  else if q.well n.toNat (decide (q.clr.getD n.toNat 0 = q.m)) = true then (none, { q.said n.toNat true ("wipe", n) with clr := q.clr.set n.toNat (q.clr.getD n.toNat 0 + 1), ct := blankP q.ct (n.toNat * q.p.toNat) q.p.toNat })
  else (some (.failed n), q.said n.toNat false ("wipe", n))
def goodQ (q : Pc) : List Nat := (List.range q.b.toNat).filter fun n => !q.broken.getD n false
def partQ (q : Pc) (k : Bk) : Option Nat := (goodQ q).find? fun n => decide (0 < k.fil.getD n 0) && decide (k.fil.getD n 0 < q.p)
def freeQ (q : Pc) (k : Bk) : List (Int × Int) := ((goodQ q).filter fun n => decide (k.fil.getD n 0 = 0)).map fun n : Nat => (q.clr.getD n 0, (n : Int))
def nextQ (q : Pc) (k : Bk) : Option Nat := match partQ q k with
  | some n => some n
  | none => (sortP (freeQ q k)).head?.map fun e => e.2.toNat
def spotQ (q : Pc) (k : Bk) : Option Int := (nextQ q k).map fun n : Nat => (n : Int) * q.p + k.fil.getD n 0
/-- the rules: by a way to go ahead, a window, a list that is followed -/
inductive Rl
  | by (g : Int → Int → Tal → Tal → Bool)
  | window (n : Int)
  | follow (l : List Int) (i : Nat)
structure Mv where
  nm : Int
  pg : Int
  to : Int
structure Pap where
  why : Str
  some : List Tal
  blk : Int
  mv : List Mv
  well : Bool
structure St where
  q : Pc
  k : Bk
  pp : List Pap
  ru : Rl
inductive Kd
  | plain
  | store
  | even
  | sure
def Rf.isStuck : Rf → Bool
  | .stuck => true
  | _ => false
def resvQ : Kd → Ts → Pc → Int
  | .plain, _, _ => 0
  | .store, t, _ => 1 + t.i
  | .even, t, _ => 1 + t.i
  | .sure, t, q => 1 + t.i - (t.b - ((goodQ q).length : Int))
def wornQ (t : Ts) (q : Pc) : Bool := decide (t.i < t.b - ((goodQ q).length : Int))
def readyQ (kd : Kd) (t : Ts) (q : Pc) (k : Bk) : Bool := match partQ q k with
  | none => decide (resvQ kd t q < ((freeQ q k).length : Int))
  | some _ => decide (resvQ kd t q ≤ ((freeQ q k).length : Int))
def spaceQ (kd : Kd) (t : Ts) (q : Pc) (k : Bk) : Int := if resvQ kd t q ≤ ((freeQ q k).length : Int) then t.p else match partQ q k with
  | none => 0
  | some n => t.p - k.fil.getD n 0
def tallyQ (q : Pc) (k : Bk) (n : Nat) : Tal := ⟨n, k.live.getD n 0, q.clr.getD n 0, k.born.getD n 0⟩
def fullQ (kd : Kd) (t : Ts) (q : Pc) (k : Bk) : List Tal := ((goodQ q).filter fun n => decide (k.fil.getD n 0 = t.p) && decide (k.live.getD n 0 ≤ spaceQ kd t q k)).map (tallyQ q k)
def clrsQ (q : Pc) : List Int := (goodQ q).map fun n : Nat => q.clr.getD n 0
def leastQ (q : Pc) : Int := minZ 0 (clrsQ q)
def sparedQ (kd : Kd) (t : Ts) (q : Pc) (k : Bk) : List Tal := (fullQ kd t q k).filter fun u => decide (u.c < leastQ q + t.z)
def optsQ : Kd → Ts → Pc → Bk → List Tal
  | .plain, _, _, _ => []
  | .store, t, q, k => (fullQ .store t q k).filter fun u => decide (u.l < t.p)
  | .even, t, q, k => (sparedQ .even t q k).filter fun u => decide (u.l < t.p)
  | .sure, t, q, k => (sparedQ .sure t q k).filter fun u => decide (u.l < t.p)
def otherQ : Kd → Ts → Pc → Bk → Option Int
  | .plain, _, _, _ => none
  | .store, _, _, _ => none
  | .even, t, q, k => match sparedQ .even t q k with
    | [] => none
    | u :: us => some (pickL (fun x y => decide (x.c < y.c)) u us).b
  | .sure, t, q, k => match sparedQ .sure t q k with
    | [] => none
    | u :: us => some (pickL (fun x y => decide (x.c < y.c)) u us).b
def winL (n : Int) (ts : List Tal) : List Tal := ts
def Rl.choose (R : Rl) (ts : List Tal) (pages now : Int) : Int × Rl := match R with
  | .by g => ((pick (g pages now) ts).b, .by g)
  | .window n => ((pick (fun t u => decide (t.l < u.l)) (ts.filter fun t => decide ((t.o, t.b) ∈ (sortP (ts.map fun t => (t.o, t.b))).take n.toNat))).b, .window n)
  | .follow l i => (match l[i]? with
    | none => (ts.headD ⟨0, 0, 0, 0⟩).b
    | some b => if (ts.any fun t => decide (t.b = b)) = true then b else (ts.headD ⟨0, 0, 0, 0⟩).b, .follow l (i + 1))
/-- why a block is cleared, and which; the rule behind -/
def choiceQ (kd : Kd) (t : Ts) (s : St) : Option (Str × Int) × Rl := match optsQ kd t s.q s.k with
  | [] => ((otherQ kd t s.q s.k).map fun b => ("even", b), s.ru)
  | u :: us => (some ("rule", (s.ru.choose (u :: us) t.p s.k.stamp).1), (s.ru.choose (u :: us) t.p s.k.stamp).2)
def setDown (s : St) (n v : Int) : Except Rf Int × St := match spotQ s.q s.k with
  | none => (.error .noroom, s)
  | some pg => match s.q.putP pg (mk s.k.stamp n, v) with
    | (none, q') => (.ok pg, { s with q := q', k := s.k.note pg n })
    | (some e, q') => (.error e, { s with q := q' })
def laySure (t : Ts) : Nat → St → Int → Int → Except Rf Int × St
  | 0, s, _, _ => (.error .stuck, s)
  | f + 1, s, n, v => match setDown s n v with
    | (.error (.failed b), s') => if wornQ t s'.q = true then (.error .wornout, s') else laySure t f s' n v
    | r => r
def layQ (kd : Kd) (t : Ts) (s : St) (n v : Int) : Except Rf Int × St := match kd with
  | .sure => laySure t 17 s n v
  | _ => setDown s n v
def liveQ (k : Bk) (n : Int) : List (Int × Int) := ((List.range k.p.toNat).map fun j : Nat => n * k.p + (j : Int)).filterMap fun pg => match k.nm.getD pg.toNat .non with
  | .int m => some (pg, m)
  | _ => none
def valueQ (s : St) (pg n : Int) : Int := if n = 64 then bitsI (heldL s.k) else ((s.q.ct.getD pg.toNat none).getD (0, 0)).2
def movedQ (kd : Kd) (t : Ts) : List (Int × Int) → St → Except Rf (List Mv) × St
  | [], s => (.ok [], s)
  | (pg, n) :: r, s => if n ≠ 64 ∧ s.q.dark = true then (.error .dark, s) else match layQ kd t s n (valueQ s pg n) with
    | (.error e, s') => (.error e, s')
    | (.ok to, s') => match movedQ kd t r s' with
      | (.error e, s'') => (.error e, s'')
      | (.ok l, s'') => (.ok (⟨n, pg, to⟩ :: l), s'')
def Bk.empt (k : Bk) (n : Int) : Bk := { k with fil := k.fil.set n.toNat 0, born := k.born.set n.toNat 0 }
def wipedQ (kd : Kd) (t : Ts) (s : St) (n : Int) : Except Rf Bool × St := match s.q.wipeP n with
  | (none, q') => (.ok true, { s with q := q', k := s.k.empt n })
  | (some (.failed b), q') => match kd with
    | .sure => if wornQ t q' = true then (.error .wornout, { s with q := q' }) else (.ok false, { s with q := q' })
    | _ => (.error (.failed b), { s with q := q' })
  | (some e, q') => (.error e, { s with q := q' })
def roomQ (kd : Kd) (t : Ts) (s : St) : Except Rf Pap × St := match choiceQ kd t s with
  | (none, ru') => (.error .noroom, { s with ru := ru' })
  | (some (why, b), ru') => match movedQ kd t (liveQ s.k b) { s with ru := ru' } with
    | (.error e, s') => (.error e, s')
    | (.ok mv, s') => match wipedQ kd t s' b with
      | (.error e, s'') => (.error e, s'')
      | (.ok w, s'') => (.ok ⟨why, optsQ kd t s.q s.k, b, mv, w⟩, { s'' with pp := s''.pp ++ [⟨why, optsQ kd t s.q s.k, b, mv, w⟩] })
def roomsQ (kd : Kd) (t : Ts) : Nat → St → Except Rf Unit × St
  | 0, s => (.error .stuck, s)
  | f + 1, s => if readyQ kd t s.q s.k = true then (.ok (), s) else match roomQ kd t s with
    | (.error e, s') => (.error e, s')
    | (.ok _, s') => roomsQ kd t f s'
def mkReadyQ (kd : Kd) (t : Ts) (f : Nat) (s : St) : Except Rf Unit × St := match kd with
  | .plain => if readyQ .plain t s.q s.k = true then (.ok (), s) else (.error .noroom, s)
  | .sure => if wornQ t s.q = true then (.error .wornout, s) else roomsQ .sure t f s
  | kd => roomsQ kd t f s
/-- a writing of a sheet that is one, with a value that is one -/
def writeQ (kd : Kd) (t : Ts) (f : Nat) (s : St) (n v : Int) : Except Rf Int × St :=
  if getI s.k.wh n = none ∧ t.h ≤ ((heldL s.k).length : Int) then (.error .full, s) else match mkReadyQ kd t f s with
    | (.error e, s') => (.error e, s')
    | (.ok _, s') => layQ kd t s' n v
/-- a giving up of sheets that are some -/
def giveQ (kd : Kd) (t : Ts) (f : Nat) (s : St) (ns : List Int) : Except Rf Int × St :=
  if goneL s.k ns = [] then (.ok 0, s) else match mkReadyQ kd t f s with
    | (.error e, s') => (.error e, s')
    | (.ok _, s') => match layQ kd t s' 64 (bitsI (keptL s'.k (goneL s.k ns))) with
      | (.error e, s'') => (.error e, s'')
      | (.ok _, s'') => (.ok ((goneL s.k ns).length : Int), { s'' with k := s''.k.drops (goneL s.k ns) })
/-! ### what a chip and a book are like together -/
structure Wf (q : Pc) (k : Bk) : Prop where
  kb : k.b = q.b
  kp : k.p = q.p
  ctl : (q.ct.length : Int) = q.b * q.p
  bk : BkOk k
  fil : ∀ n : Nat, 0 ≤ k.fil.getD n 0 ∧ k.fil.getD n 0 ≤ k.p
  clear : ∀ n j : Nat, n < q.b.toNat → j < q.p.toNat → k.fil.getD n 0 ≤ (j : Int) → q.ct.getD (n * q.p.toNat + j) none = none
  keys : (k.wh.map (·.1)).Nodup
  rng : ∀ e ∈ k.wh, 0 ≤ e.1 ∧ e.1 ≤ 64
  own : ∀ nm pg, getI k.wh nm = some pg → (∃ e, q.ct.getD pg.toNat none = some e) ∧ k.nm.getD pg.toNat .non = .int nm
  nms : ∀ pg : Nat, k.nm.getD pg .non = .non ∨ ∃ nm : Int, k.nm.getD pg .non = .int nm ∧ getI k.wh nm = some (pg : Int)
  lv : ∀ n : Nat, n < q.b.toNat → k.live.getD n 0 = ((k.wh.filter fun e => decide (e.2 / k.p = (n : Int))).length : Int)
  bn : ∀ n : Nat, 0 ≤ k.born.getD n 0 ∧ k.born.getD n 0 < k.stamp
  cb : ∀ n : Nat, 0 ≤ q.clr.getD n 0 ∧ q.clr.getD n 0 ≤ (q.log.length : Int)
theorem Wf.chip {q q' : Pc} {k : Bk} (h : Wf q k) (e1 : q'.b = q.b) (e2 : q'.p = q.p) (e3 : q'.ct = q.ct) (e4 : q'.clr = q.clr) (e5 : q.log.length ≤ q'.log.length) : Wf q' k :=
  ⟨h.kb.trans e1.symm, h.kp.trans e2.symm, by rw [e1, e2, e3]; exact h.ctl, h.bk, h.fil, by rw [e1, e2, e3]; exact h.clear, h.keys, h.rng, by rw [e3]; exact h.own, h.nms, by rw [e1]; exact h.lv, h.bn, fun n => by rw [e4]; have := h.cb n; omega⟩
theorem Wf.said {q : Pc} {k : Bk} (h : Wf q k) (n : Nat) (w : Bool) (e : Str × Int) : Wf (q.said n w e) k := h.chip rfl rfl rfl rfl (by show _ ≤ (q.log ++ [_]).length; rw [List.length_append]; omega)
/-- a name's row taken out: how many are left in a block -/
theorem drop_cnt {f : Int × Int → Bool} {n x : Int} : ∀ {ps : List (Int × Int)}, (ps.map (·.1)).Nodup → getI ps n = some x → (((dropI ps n).filter f).length : Int) = ((ps.filter f).length : Int) - (if f (n, x) = true then 1 else 0)
  | [], _, h => by cases h
  | e :: ps, hn, h => by
    rw [List.map_cons, List.nodup_cons] at hn
    rw [getI_cons] at h
    by_cases he : e.1 = n
    · rw [if_pos he] at h
      injection h with h
      have e0 : e = (n, x) := by rw [← he, ← h]
      have e1 : dropI (e :: ps) n = ps := by
        unfold dropI
        rw [List.filter_cons_of_neg (by simp [he])]
        refine List.filter_eq_self.mpr fun y hy => decide_eq_true fun z => hn.1 (by rw [he, ← z]; exact List.mem_map.mpr ⟨_, hy, rfl⟩)
      rw [e1, List.filter_cons, e0]
      split
      · rw [List.length_cons]; omega
      · omega
    · rw [if_neg he] at h
      have e1 : dropI (e :: ps) n = e :: dropI ps n := by
        unfold dropI
        rw [List.filter_cons_of_pos (by simp [he])]
      have ih := drop_cnt (f := f) hn.2 h
      rw [e1, List.filter_cons, List.filter_cons]
      split
      · rw [List.length_cons, List.length_cons]; omega
      · exact ih
theorem drop_bn {k : Bk} {n : Int} : (k.drop n).born = k.born := by unfold Bk.drop; split <;> rfl
theorem drop_lv {k : Bk} {n : Int} : (k.drop n).live = match getI k.wh n with
    | none => k.live
    | some x => k.live.set (x / k.p).toNat (k.live.getD (x / k.p).toNat 0 - 1) := by
  unfold Bk.drop
  cases getI k.wh n <;> rfl
theorem drop_whE {k : Bk} {n : Int} : (k.drop n).wh = match getI k.wh n with
    | none => k.wh
    | some _ => dropI k.wh n := by
  unfold Bk.drop
  cases getI k.wh n <;> rfl
theorem note_whE {k : Bk} {pg n : Int} : (k.note pg n).wh = (k.drop n).wh ++ [(n, pg)] := by
  show putI (k.drop n).wh n pg = _
  unfold putI
  rw [if_neg]
  intro z
  obtain ⟨e, he, z⟩ := List.any_eq_true.mp z
  have h1 : getI (k.drop n).wh n = none := by rw [drop_wh, if_pos rfl]
  exact getI_key.mp h1 (List.mem_map.mpr ⟨e, he, of_decide_eq_true z⟩)
theorem Wf.whl {q : Pc} {k : Bk} (h : Wf q k) : k.wh.length ≤ 65 := by
  have := nodup_le (N := 65) h.keys fun x hx => by
    obtain ⟨e, he, rfl⟩ := List.mem_map.mp hx
    have := h.rng e he
    omega
  rw [List.length_map] at this
  exact this
theorem Wf.drop {q : Pc} {k : Bk} (h : Wf q k) (n : Int) : Wf q (k.drop n) := by
  refine ⟨drop_b.trans h.kb, drop_p.trans h.kp, h.ctl, h.bk.drop n, by rw [drop_fil, drop_p]; exact h.fil, by rw [drop_fil]; exact h.clear, drop_whn h.keys, fun e he => h.rng e (drop_whm e he), fun nm pg hg => ?_, fun pg => ?_, fun m hm => ?_, fun m => by rw [drop_bn, drop_st]; exact h.bn m, h.cb⟩
  rotate_left 2
  · rw [drop_lv, drop_whE, drop_p]
    cases hx : getI k.wh n with
    | none => exact h.lv m hm
    | some x =>
      dsimp only
      have hw := h.bk.wh _ (getI_mem hx)
      dsimp only at hw
      have hp := h.bk.p
      have hb0 : 0 ≤ x / k.p := Int.ediv_nonneg hw.1 (by omega)
      have hb1 : x / k.p < k.b := Int.ediv_lt_of_lt_mul (by omega) hw.2
      have hl := h.bk.live
      rw [getD_set (by omega), drop_cnt h.keys hx, ← h.lv m hm]
      by_cases em : m = (x / k.p).toNat
      · rw [if_pos em, if_pos (decide_eq_true (show x / k.p = (m : Int) by omega)), em]
      · rw [if_neg em, if_neg (fun z => em (by have := of_decide_eq_true z; dsimp only at this; omega))]
        omega
  · rw [drop_wh] at hg
    split at hg
    · cases hg
    · rename_i hne
      obtain ⟨h1, h2⟩ := h.own nm pg hg
      refine ⟨h1, ?_⟩
      rw [drop_nm]
      split
      · exact h2
      · rename_i x hx
        rw [getD_set', if_neg]
        · exact h2
        · rintro ⟨e, _⟩
          have := (h.own n x hx).2
          rw [← e, h2] at this
          injection this with this
          exact hne this
  · rw [drop_nm]
    split
    · rename_i hx
      rcases h.nms pg with z | ⟨nm, z1, z2⟩
      · exact .inl z
      · refine .inr ⟨nm, z1, ?_⟩
        rw [drop_wh, if_neg (fun e => by rw [e, hx] at z2; cases z2)]
        exact z2
    · rename_i x hx
      rw [getD_set']
      split
      · exact .inl rfl
      · rename_i hne
        rcases h.nms pg with z | ⟨nm, z1, z2⟩
        · exact .inl z
        · refine .inr ⟨nm, z1, ?_⟩
          rw [drop_wh, if_neg (fun e => ?_)]
          · exact z2
          · rw [e, hx] at z2
            injection z2 with z2
            have hl := (h.bk.wh _ (getI_mem hx)).2
            have h0 := (h.bk.wh _ (getI_mem hx)).1
            have hn := h.bk.nm
            dsimp only at hl h0
            exact hne ⟨by omega, by omega⟩
theorem Wf.drops {q : Pc} : ∀ {l : List Int} {k : Bk}, Wf q k → Wf q (k.drops l)
  | [], _, h => h
  | n :: l, k, h => Wf.drops (l := l) (k := k.drop n) (h.drop n)
/-- where a page lies -/
theorem page_at {n : Nat} {p x : Int} (hp : 1 ≤ p) (h0 : 0 ≤ x) (h1 : x < p) : (((n : Int) * p + x) / p = (n : Int)) ∧ ((n : Int) * p + x).toNat = n * p.toNat + x.toNat := by
  constructor
  · rw [Int.add_comm, Int.add_mul_ediv_right _ _ (by omega), Int.ediv_eq_zero_of_lt h0 h1, Int.zero_add]
  · obtain ⟨m, rfl⟩ := Int.eq_ofNat_of_zero_le (show 0 ≤ p by omega)
    obtain ⟨y, rfl⟩ := Int.eq_ofNat_of_zero_le h0
    simp only [Int.toNat_natCast]
    rw [← Int.natCast_mul, ← Int.natCast_add, Int.toNat_natCast]
theorem place_inj {p n m i j : Nat} (hi : i < p) (hj : j < p) (e : n * p + i = m * p + j) : n = m ∧ i = j := by
  have h1 : n = m := by
    have a : (n * p + i) / p = n := by rw [Nat.add_comm, Nat.add_mul_div_right _ _ (by omega), Nat.div_eq_of_lt hi, Nat.zero_add]
    have b : (m * p + j) / p = m := by rw [Nat.add_comm, Nat.add_mul_div_right _ _ (by omega), Nat.div_eq_of_lt hj, Nat.zero_add]
    rw [← a, ← b, e]
  subst h1
  exact ⟨rfl, by omega⟩
theorem freeQ_mem {q : Pc} {k : Bk} {e : Int × Int} (h : e ∈ sortP (freeQ q k)) : ∃ n : Nat, e = (q.clr.getD n 0, (n : Int)) ∧ n < q.b.toNat ∧ k.fil.getD n 0 = 0 ∧ q.broken.getD n false = false := by
  have h2 := (sortP_perm _).mem_iff.mp h
  unfold freeQ at h2
  obtain ⟨n, hn, rfl⟩ := List.mem_map.mp h2
  have hf := List.mem_filter.mp hn
  have hg := List.mem_filter.mp hf.1
  exact ⟨n, rfl, List.mem_range.mp hg.1, of_decide_eq_true hf.2, by simpa using hg.2⟩
theorem partQ_mem {q : Pc} {k : Bk} {n : Nat} (h : partQ q k = some n) : n < q.b.toNat ∧ 0 < k.fil.getD n 0 ∧ k.fil.getD n 0 < q.p ∧ q.broken.getD n false = false := by
  unfold partQ at h
  have h1 := List.find?_some h
  have h2 := List.mem_filter.mp (List.mem_of_find?_eq_some h)
  rw [Bool.and_eq_true] at h1
  exact ⟨List.mem_range.mp h2.1, of_decide_eq_true h1.1, of_decide_eq_true h1.2, by simpa using h2.2⟩
theorem nextQ_mem {q : Pc} {k : Bk} {n : Nat} (hp : 1 ≤ q.p) (h : nextQ q k = some n) : n < q.b.toNat ∧ 0 ≤ k.fil.getD n 0 ∧ k.fil.getD n 0 < q.p ∧ q.broken.getD n false = false := by
  unfold nextQ at h
  cases hpo : partQ q k with
  | some m =>
    rw [hpo] at h
    obtain rfl : m = n := by injection h
    obtain ⟨h1, h2, h3, h4⟩ := partQ_mem hpo
    exact ⟨h1, by omega, h3, h4⟩
  | none =>
    rw [hpo] at h
    cases hl : sortP (freeQ q k) with
    | nil => rw [hl] at h; cases h
    | cons e l =>
      obtain ⟨m, he, h1, h2, h3⟩ := freeQ_mem (show e ∈ sortP (freeQ q k) by rw [hl]; exact List.mem_cons_self)
      rw [hl, he] at h
      obtain rfl : m = n := by
        simp only [List.head?_cons, Option.map_some, Int.toNat_natCast] at h
        injection h
      exact ⟨h1, by omega, by omega, h3⟩
/-- the page that is put next: its block and place -/
structure Spot (q : Pc) (k : Bk) (pg : Int) (n : Nat) : Prop where
  next : nextQ q k = some n
  eq : pg = (n : Int) * q.p + k.fil.getD n 0
  lt : n < q.b.toNat
  f0 : 0 ≤ k.fil.getD n 0
  f1 : k.fil.getD n 0 < q.p
  good : q.broken.getD n false = false
  blk : pg / q.p = (n : Int)
  nat : pg.toNat = n * q.p.toNat + (k.fil.getD n 0).toNat
  lo : 0 ≤ pg
  hi : pg < q.b * q.p
theorem spot_of {q : Pc} {k : Bk} {pg : Int} (hp : 1 ≤ q.p) (h : spotQ q k = some pg) : ∃ n, Spot q k pg n := by
  unfold spotQ at h
  cases hn : nextQ q k with
  | none => rw [hn] at h; cases h
  | some n =>
    rw [hn] at h
    have e : pg = (n : Int) * q.p + k.fil.getD n 0 := by injection h with h; exact h.symm
    obtain ⟨h1, h2, h3, h4⟩ := nextQ_mem hp hn
    obtain ⟨a1, a2⟩ := page_at (n := n) hp h2 h3
    have m0 : 0 ≤ (n : Int) * q.p := Int.mul_nonneg (by omega) (by omega)
    have m1 : (n : Int) * q.p ≤ (q.b - 1) * q.p := Int.mul_le_mul_of_nonneg_right (by omega) (by omega)
    have m2 : q.b * q.p = (q.b - 1) * q.p + q.p := by rw [Int.sub_mul, Int.one_mul]; omega
    exact ⟨n, hn, e, h1, h2, h3, h4, by rw [e]; exact a1, by rw [e]; exact a2, by omega, by omega⟩
theorem Wf.blank {q : Pc} {k : Bk} {pg : Int} {n : Nat} (h : Wf q k) (s : Spot q k pg n) : q.ct.getD pg.toNat none = none := by
  rw [s.nat]
  have := s.f0
  have := s.f1
  exact h.clear n _ s.lt (by omega) (by omega)
theorem Wf.put {q q' : Pc} {k : Bk} {pg nm : Int} {n : Nat} {e : Int × Int} (h : Wf q k) (s : Spot q k pg n) (hn : 0 ≤ nm ∧ nm ≤ 64) (hs : k.stamp + 1 < 10 ^ 40) (e1 : q'.b = q.b) (e2 : q'.p = q.p) (e3 : q'.ct = q.ct.set pg.toNat (some e)) (e4 : q'.clr = q.clr) (e5 : q.log.length ≤ q'.log.length) : Wf q' (k.note pg nm) := by
  have hkb := h.kb
  have hkp := h.kp
  have hpp := h.bk.p
  have hbb := h.bk.b
  have ekp : k.p.toNat = q.p.toNat := by rw [hkp]
  have hlt := s.lt
  have hfl : n < k.fil.length := by have := h.bk.fil; omega
  have hbk : (pg / k.p).toNat = n := by rw [hkp, s.blk, Int.toNat_natCast]
  have hctl : pg.toNat < q.ct.length := by have := h.ctl; have := s.lo; have := s.hi; omega
  have hnml : pg.toNat < (k.drop nm).nm.length := by have := (h.bk.drop nm).nm; rw [drop_b, drop_p, hkb, hkp] at this; have := s.lo; have := s.hi; omega
  have hblank := h.blank s
  refine ⟨by rw [note_bp.1, e1]; exact hkb, by rw [note_bp.2, e2]; exact hkp, by rw [e1, e2, e3, List.length_set]; exact h.ctl, h.bk.note s.lo (by rw [hkb, hkp]; exact s.hi) (by have := h.whl; omega) hs, fun m => ?_, fun m j hm hj hf => ?_, note_whn h.keys, note_whm (A := fun i => 0 ≤ i ∧ i ≤ 64) h.rng hn, fun i pg2 hg => ?_, fun pg2 => ?_, fun m hm => ?_, fun m => ?_, fun m => by rw [e4]; have := h.cb m; omega⟩
  rotate_left 4
  · have hd := h.drop nm
    rw [e1] at hm
    have h1 := hd.lv m hm
    rw [drop_p] at h1
    rw [note_whE, note_bp.2, List.filter_append, List.length_append]
    show ((k.drop nm).live.set (pg / k.p).toNat ((k.drop nm).live.getD (pg / k.p).toNat 0 + 1)).getD m 0 = _
    have hl := hd.bk.live
    rw [drop_b] at hl
    rw [hbk, getD_set (by omega)]
    have hpg : pg / k.p = (n : Int) := by rw [hkp]; exact s.blk
    by_cases em : m = n
    · subst em
      rw [if_pos rfl, List.filter_cons_of_pos (by rw [hpg]; simp), h1]
      simp
    · rw [if_neg em, List.filter_cons_of_neg (by rw [hpg]; simp; omega), h1]
      simp
  · have h1 := h.bn m
    have h2 := h.bk.st
    have e : (k.note pg nm).born.getD m 0 = k.born.getD m 0 ∨ (k.note pg nm).born.getD m 0 = k.stamp := by
      show (if (k.drop nm).fil.getD (pg / k.p).toNat 0 = 0 then (k.drop nm).born.set (pg / k.p).toNat (k.drop nm).stamp else (k.drop nm).born).getD m 0 = _ ∨ (if (k.drop nm).fil.getD (pg / k.p).toNat 0 = 0 then (k.drop nm).born.set (pg / k.p).toNat (k.drop nm).stamp else (k.drop nm).born).getD m 0 = _
      rw [drop_bn, drop_st]
      split
      · rw [getD_set']
        split
        · exact .inr rfl
        · exact .inl rfl
      · exact .inl rfl
    rw [note_st]
    omega
  · rw [note_fil, hbk, getD_set hfl, note_bp.2]
    have := s.f0
    have := s.f1
    split
    · omega
    · exact h.fil m
  · rw [e1] at hm
    rw [e2] at hj
    rw [e3, e2, getD_set']
    rw [note_fil, hbk, getD_set hfl] at hf
    by_cases em : m = n
    · subst em
      rw [if_pos rfl] at hf
      have := s.f0
      rw [if_neg (fun z => by have := z.1; rw [s.nat] at this; omega)]
      exact h.clear m j hm hj (by omega)
    · rw [if_neg em] at hf
      rw [if_neg (fun z => by
        have z := z.1
        rw [s.nat] at z
        have := s.f1
        have := s.f0
        exact em (place_inj hj (by omega) z).1)]
      exact h.clear m j hm hj hf
  · rw [note_wh] at hg
    by_cases ei : i = nm
    · rw [if_pos ei] at hg
      injection hg with hg
      subst hg ei
      exact ⟨⟨e, by rw [e3, getD_set hctl, if_pos rfl]⟩, by rw [note_nm, getD_set hnml, if_pos rfl]⟩
    · rw [if_neg ei] at hg
      have hd : getI (k.drop nm).wh i = some pg2 := by rw [drop_wh, if_neg ei]; exact hg
      obtain ⟨⟨x, hx⟩, hy⟩ := (h.drop nm).own i pg2 hd
      have hne : pg2.toNat ≠ pg.toNat := fun z => by rw [z, hblank] at hx; cases hx
      exact ⟨⟨x, by rw [e3, getD_set hctl, if_neg hne]; exact hx⟩, by rw [note_nm, getD_set hnml, if_neg hne]; exact hy⟩
  · rw [note_nm, getD_set hnml]
    split
    · rename_i ep
      refine .inr ⟨nm, rfl, ?_⟩
      rw [note_wh, if_pos rfl, ep]
      have := s.lo
      congr 1
      omega
    · rename_i ep
      rcases (h.drop nm).nms pg2 with z | ⟨i, z1, z2⟩
      · exact .inl z
      · refine .inr ⟨i, z1, ?_⟩
        rw [drop_wh] at z2
        rw [note_wh]
        split at z2
        · cases z2
        · rename_i hne
          rw [if_neg hne]
          exact z2
theorem blankP_len (l : List (Option (Int × Int))) (s : Nat) : ∀ i, (blankP l s i).length = l.length
  | 0 => rfl
  | i + 1 => by
    show ((blankP l s i).set _ _).length = _
    rw [List.length_set, blankP_len l s i]
theorem blankP_get (l : List (Option (Int × Int))) (s : Nat) : ∀ i m, (blankP l s i).getD m none = if s ≤ m ∧ m < s + i then none else l.getD m none
  | 0, m => by rw [if_neg (by omega)]; rfl
  | i + 1, m => by
    show ((blankP l s i).set _ _).getD m none = _
    rw [getD_set', blankP_get l s i m]
    by_cases h : m = s + i
    · rw [if_pos (show s ≤ m ∧ m < s + (i + 1) by omega)]
      split
      · rfl
      · rename_i hz
        have : ¬ s + i < (blankP l s i).length := fun y => hz ⟨h, y⟩
        rw [blankP_len] at this
        rw [if_neg (by omega), List.getD_eq_getElem?_getD, List.getElem?_eq_none (by omega)]
        rfl
    · rw [if_neg (fun z => h z.1)]
      by_cases h2 : s ≤ m ∧ m < s + i
      · rw [if_pos h2, if_pos (by omega)]
      · rw [if_neg h2, if_neg (by omega)]
theorem Wf.wipe {q q' : Pc} {k : Bk} {n : Nat} (h : Wf q k) (hn : n < q.b.toNat) (hno : ∀ nm pg, getI k.wh nm = some pg → pg / k.p ≠ (n : Int)) (e1 : q'.b = q.b) (e2 : q'.p = q.p) (e3 : q'.ct = blankP q.ct (n * q.p.toNat) q.p.toNat) (e4 : q'.clr = q.clr.set n (q.clr.getD n 0 + 1)) (e5 : q'.log.length = q.log.length + 1) : Wf q' (k.empt n) := by
  have hkp := h.kp
  have hpp := h.bk.p
  have hfl : n < k.fil.length := by have := h.bk.fil; have := h.kb; omega
  refine ⟨h.kb.trans e1.symm, h.kp.trans e2.symm, by rw [e1, e2, e3, blankP_len]; exact h.ctl, ⟨h.bk.b, h.bk.p, h.bk.nm, h.bk.live, ?_, ?_, h.bk.wh, h.bk.whl, h.bk.st⟩, fun m => ?_, fun m j hm hj hf => ?_, h.keys, h.rng, fun i pg hg => ?_, h.nms, by rw [e1]; exact h.lv, fun m => ?_, fun m => ?_⟩
  rotate_left 5
  · show 0 ≤ (k.born.set (n : Int).toNat 0).getD m 0 ∧ (k.born.set (n : Int).toNat 0).getD m 0 < k.stamp
    have h1 := h.bn m
    have h2 := h.bn n
    rw [getD_set']
    split <;> omega
  · rw [e4, e5, getD_set']
    have h1 := h.cb m
    have h2 := h.cb n
    split <;> omega
  · show ((k.fil.set _ _).length : Int) = _
    rw [List.length_set]; exact h.bk.fil
  · show ((k.born.set _ _).length : Int) = _
    rw [List.length_set]; exact h.bk.born
  · show 0 ≤ (k.fil.set (n : Int).toNat 0).getD m 0 ∧ (k.fil.set (n : Int).toNat 0).getD m 0 ≤ k.p
    rw [Int.toNat_natCast, getD_set hfl]
    split
    · omega
    · exact h.fil m
  · rw [e1] at hm
    rw [e2] at hj
    rw [e3, e2, blankP_get]
    split
    · rfl
    · rename_i hz
      have em : m ≠ n := fun z => hz (by subst z; omega)
      have hf' : (k.fil.set (n : Int).toNat 0).getD m 0 ≤ (j : Int) := hf
      rw [Int.toNat_natCast, getD_set hfl, if_neg em] at hf'
      exact h.clear m j hm hj hf'
  · obtain ⟨⟨x, hx⟩, hy⟩ := h.own i pg hg
    refine ⟨⟨x, ?_⟩, hy⟩
    have hw := h.bk.wh _ (getI_mem hg)
    dsimp only at hw
    rw [e3, blankP_get, if_neg]
    · exact hx
    · intro z
      refine hno i pg hg ?_
      have ep : k.p = ((q.p.toNat : Nat) : Int) := by omega
      have epg : pg = ((pg.toNat : Nat) : Int) := by omega
      rw [ep, epg, ← Int.natCast_ediv]
      congr 1
      have hp0 : 0 < q.p.toNat := by omega
      have e5 : pg.toNat = (pg.toNat - n * q.p.toNat) + n * q.p.toNat := by omega
      rw [e5, Nat.add_mul_div_right _ _ hp0, Nat.div_eq_of_lt (by omega), Nat.zero_add]
theorem Wf.new {b p m : Int} {l : List V} (hb : 2 ≤ b ∧ b ≤ 16) (hp : 1 ≤ p ∧ p ≤ 16) {q : Pc} (e1 : q.b = b) (e2 : q.p = p) (e3 : q.ct = List.replicate (b * p).toNat none) (e4 : ∀ n : Nat, 0 ≤ q.clr.getD n 0 ∧ q.clr.getD n 0 ≤ (q.log.length : Int)) : Wf q (Bk.new b p) := by
  have rep : ∀ {α : Type} (x : α) (a n : Nat), (List.replicate a x).getD n x = x := fun x a n => by
    rw [List.getD_eq_getElem?_getD, List.getElem?_replicate]
    split <;> rfl
  have hbp : 0 ≤ b * p := Int.mul_nonneg (by omega) (by omega)
  refine ⟨e1.symm, e2.symm, by rw [e1, e2, e3, List.length_replicate]; omega, Bk.new_ok hb hp, fun n => ?_, fun n j _ _ _ => by rw [e3]; exact rep _ _ _, .nil, fun e he => (by cases he), fun nm pg hg => (by cases hg), fun pg => .inl (rep _ _ _), fun n _ => rep _ _ _, fun n => ?_, e4⟩
  rotate_left
  · show 0 ≤ (List.replicate b.toNat (0 : Int)).getD n 0 ∧ (List.replicate b.toNat (0 : Int)).getD n 0 < 1
    rw [rep]
    omega
  show 0 ≤ (List.replicate b.toNat (0 : Int)).getD n 0 ∧ (List.replicate b.toNat (0 : Int)).getD n 0 ≤ p
  rw [rep]
  omega
/-- how many live pages a block can have -/
theorem Wf.live_le {q : Pc} {k : Bk} (h : Wf q k) {n : Nat} (hn : n < q.b.toNat) : 0 ≤ k.live.getD n 0 ∧ k.live.getD n 0 ≤ k.p := by
  rw [h.lv n hn]
  have hp := h.bk.p
  refine ⟨Int.natCast_nonneg _, ?_⟩
  have hnd : (((k.wh.filter fun e => decide (e.2 / k.p = (n : Int)))).map fun e => e.2 - (n : Int) * k.p).Nodup := by
    refine List.pairwise_map.mpr (List.Pairwise.imp_of_mem (fun {x y} hx hy (e : x ≠ y) z => ?_) ((List.Pairwise.of_map (fun e : Int × Int => e.1) (fun a b (h : a.1 ≠ b.1) (z : a = b) => h (by rw [z])) h.keys).filter _))
    have hx1 := (List.mem_filter.mp hx).1
    have hy1 := (List.mem_filter.mp hy).1
    have gx := getI_of_mem h.keys (n := x.1) (x := x.2) hx1
    have gy := getI_of_mem h.keys (n := y.1) (x := y.2) hy1
    have e2 : x.2 = y.2 := by omega
    have a := (h.own _ _ gx).2
    have b := (h.own _ _ gy).2
    rw [e2, b] at a
    injection a with a
    exact e (Prod.ext a.symm e2)
  have := nodup_le (N := k.p.toNat) hnd fun x hx => by
    obtain ⟨e, he, rfl⟩ := List.mem_map.mp hx
    have h1 := of_decide_eq_true (List.mem_filter.mp he).2
    have h2 := Int.emod_nonneg e.2 (show k.p ≠ 0 by omega)
    have h3 := Int.emod_lt_of_pos e.2 (show 0 < k.p by omega)
    have h4 := Int.mul_ediv_add_emod e.2 k.p
    rw [h1, Int.mul_comm] at h4
    omega
  rw [List.length_map] at this
  omega

/-! ### for a law with no store -/
theorem ChipP.sz {C : Addr} {H : Hp} {r : Addr} {F : CF} {q : Pc} (h : ChipP C H r F q) : (2 ≤ q.b ∧ q.b ≤ 16) ∧ (1 ≤ q.p ∧ q.p ≤ 16) ∧ (q.broken.length : Int) = q.b ∧ (q.clr.length : Int) = q.b := by
  obtain ⟨st, hC, _⟩ := h
  exact ⟨hC.sz.b, hC.sz.p, hC.sz.broken, hC.sz.clr⟩
def FinR (T : Txt K mg) (e : Rf) (E : XK) (H' : Hp) : Prop := match e with
  | .dark => E (.ref T.C_PowerGone) none H'
  | .failed b => ∀ d, H' d = some (.xd [("block", .int b)]) → E (.ref T.C_BlockFailed) (some d) H'
  | .noroom => E (.ref T.a_law) none H'
  | .wornout => E (.ref T.a_law) none H'
  | .full => E (.ref T.a_law) none H'
  | .nosheet => E (.ref T.a_law) none H'
  | .novalue => E (.ref T.a_law) none H'
  | .stuck => False
theorem putP_log {q : Pc} {pg : Int} {e : Int × Int} : q.log.length ≤ (q.putP pg e).2.log.length := by
  unfold Pc.putP
  split
  · exact Nat.le_refl _
  · split
    · show _ ≤ (q.log ++ [_]).length
      rw [List.length_append]
      exact Nat.le_add_right _ _
    · show _ ≤ (q.log ++ [_]).length
      rw [List.length_append]
      exact Nat.le_add_right _ _
theorem putP_bp {q : Pc} {pg : Int} {e : Int × Int} : (q.putP pg e).2.b = q.b ∧ (q.putP pg e).2.p = q.p := by
  unfold Pc.putP
  split
  · exact ⟨rfl, rfl⟩
  · split <;> exact ⟨rfl, rfl⟩
theorem putP_clr {q : Pc} {pg : Int} {e : Int × Int} : (q.putP pg e).2.clr = q.clr := by
  unfold Pc.putP
  split
  · rfl
  · split <;> rfl
theorem put_toC {q : Pc} {st : List V} {H : Hp} {pg : Int} {v : V} (hst : StfAt H st q.ct) (h0 : 0 ≤ pg) (h1 : pg < q.b * q.p) (hb : q.broken.getD (pg / q.p).toNat false = false) (hc : q.ct.getD pg.toNat none = none) (hl : (q.ct.length : Int) = q.b * q.p) (e : Int × Int) :
    (q.toC st).putR (some pg) v = (match (q.putP pg e).1 with
      | none => Res.ok
      | some (.failed b) => .failed b
      | _ => .dark, (q.putP pg e).2.toC (match (q.putP pg e).1 with
      | none => st.set pg.toNat v
      | _ => st)) := by
  have hin : inB (some pg) 0 ((q.toC st).b * (q.toC st).p - 1) = true := decide_eq_true ⟨h0, by show pg ≤ q.b * q.p - 1; omega⟩
  have hs : (q.toC st).stuff.getD pg.toNat .non = .non := by
    rcases hst.2 pg.toNat (by rw [hst.1]; omega) with z | ⟨a, m, x, z, _⟩
    · exact z.2
    · rw [hc] at z; cases z
  unfold Cs.putR
  rw [if_neg (by rw [hin]; decide)]
  simp only [Option.getD_some]
  unfold Pc.putP
  cases hd : q.dark with
  | true =>
    rw [if_pos (show (q.toC st).dark = true from hd), if_pos rfl]
  | false =>
    simp only [Bool.false_eq_true, if_false]
    rw [if_neg (show ¬ (q.toC st).dark = true from by rw [show (q.toC st).dark = q.dark from rfl, hd]; decide)]
    rw [if_neg (show ¬ (q.toC st).broken.getD (pg / (q.toC st).p).toNat false = true from by rw [show (q.toC st).broken.getD (pg / (q.toC st).p).toNat false = q.broken.getD (pg / q.p).toNat false from rfl, hb]; decide), if_neg (fun z => z hs)]
    cases hw : q.well (pg / q.p).toNat false with
    | true =>
      rw [if_pos (show (q.toC st).well (pg / (q.toC st).p).toNat false = true from hw)]
      rfl
    | false =>
      rw [if_neg (show ¬ (q.toC st).well (pg / (q.toC st).p).toNat false = true from by rw [show (q.toC st).well (pg / (q.toC st).p).toNat false = q.well (pg / q.p).toNat false from rfl, hw]; decide)]
      rfl
theorem StfAt.set {H : Hp} {st : List V} {ct : List (Option (Int × Int))} {i : Nat} {a : Addr} {e : Int × Int} (h : StfAt H st ct) (ha : H a = some (.tup [.int e.1, .int e.2])) : StfAt H (st.set i (.ref a)) (ct.set i (some e)) := by
  refine ⟨by rw [List.length_set, List.length_set, h.1], fun j hj => ?_⟩
  rw [List.length_set] at hj
  rw [getD_set', getD_set']
  by_cases e1 : j = i ∧ i < st.length
  · rw [if_pos e1, if_pos ⟨e1.1, by rw [← h.1]; exact e1.2⟩]
    exact .inr ⟨a, e.1, e.2, rfl, rfl, ha⟩
  · rw [if_neg e1, if_neg (fun z => e1 ⟨z.1, by rw [h.1]; exact z.2⟩)]
    exact h.2 j hj
def spPutQ (T : Txt K mg) : Sp := fun vs H Q E => ∃ (r : Addr) (F : CF) (q : Pc) (pg : Int) (a : Addr) (e : Int × Int), vs = [.ref r, .int pg, .ref a] ∧ ChipP T.C_Chip H r F q ∧ H a = some (.tup [.int e.1, .int e.2]) ∧ q.log.length < 900000 ∧ 0 ≤ pg ∧ pg < q.b * q.p ∧ q.broken.getD (pg / q.p).toNat false = false ∧ q.ct.getD pg.toNat none = none ∧ (q.ct.length : Int) = q.b * q.p ∧
  ∀ H', Off (F.all r) H H' → ChipP T.C_Chip H' r F (q.putP pg e).2 → (match (q.putP pg e).1 with
    | none => Q .non H'
    | some x => FinR T x E H')
theorem putQ_put {T : Txt K mg} {vs : List V} {H : Hp} {Q : VK} {E : XK} (h : spPutQ T vs H Q E) : spPut T vs H Q E := by
  obtain ⟨r, F, q, pg, a, e, rfl, ⟨st, hC, hst⟩, ha, hll, h0, h1, hb, hc, hl, k⟩ := h
  refine ⟨r, F, q.toC st, _, _, some pg, rfl, hC, .int pg, hll, fun H' hO hC' => ?_⟩
  rw [put_toC hst h0 h1 hb hc hl e] at hC' ⊢
  have tt := tups_of hC.there hO
  have k1 := k H' hO
  have e3 : (q.putP pg e).1 = none ∧ (q.putP pg e).2.ct = q.ct.set pg.toNat (some e) ∨ (∃ x, (q.putP pg e).1 = some x ∧ (x = .dark ∨ ∃ b, x = .failed b)) ∧ (q.putP pg e).2.ct = q.ct := by
    unfold Pc.putP
    split
    · exact .inr ⟨⟨_, rfl, .inl rfl⟩, rfl⟩
    · split
      · exact .inl ⟨rfl, rfl⟩
      · exact .inr ⟨⟨_, rfl, .inr ⟨_, rfl⟩⟩, rfl⟩
  generalize hr : q.putP pg e = res at hC' k1 e3 ⊢
  obtain ⟨o, q'⟩ := res
  rcases e3 with ⟨e1, e2⟩ | ⟨⟨x, e1, hx⟩, e2⟩
  · dsimp only at e1 e2
    subst e1
    refine x_finOk (k1 ⟨_, hC', ?_⟩)
    dsimp only
    rw [e2]
    exact (hst.mono tt).set (tt _ _ ha)
  · dsimp only at e1 e2
    subst e1
    rcases hx with rfl | ⟨b, rfl⟩
    · have k2 := k1 ⟨_, hC', by dsimp only; rw [e2]; exact hst.mono tt⟩
      exact x_finDark k2
    · have k2 := k1 ⟨_, hC', by dsimp only; rw [e2]; exact hst.mono tt⟩
      exact k2
def Pc.new (b p m : Int) (l : List V) : Pc := { b, p, m, lasts := l, ct := List.replicate (b * p).toNat none, tried := List.replicate b.toNat 0, clr := List.replicate b.toNat 0, broken := List.replicate b.toNat false, left := none, log := [] }
theorem chipP_new {C : Addr} {H : Hp} {r : Addr} {F : CF} {b p m : Int} {l : List V} (h : ChipAt C H r F (Cs.new b p m l)) : ChipP C H r F (Pc.new b p m l) := by
  refine ⟨List.replicate (b * p).toNat .non, h, by show (List.replicate _ _).length = (List.replicate _ _).length; rw [List.length_replicate, List.length_replicate], fun i _ => .inl ⟨?_, ?_⟩⟩
  · show (List.replicate _ _).getD i none = none
    rw [List.getD_eq_getElem?_getD, List.getElem?_replicate]
    split <;> rfl
  · rw [List.getD_eq_getElem?_getD, List.getElem?_replicate]
    split <;> rfl
theorem good_of {q : Pc} {n : Nat} (h1 : n < q.b.toNat) (h2 : q.broken.getD n false = false) : n ∈ goodQ q := List.mem_filter.mpr ⟨List.mem_range.mpr h1, by rw [h2]; rfl⟩
def NoLive (k : Bk) (n : Nat) : Prop := ∀ nm pg, getI k.wh nm = some pg → pg / k.p ≠ (n : Int)
theorem ChipP.fresh {C : Addr} {H : Hp} {r : Addr} {F : CF} {q : Pc} (h : ChipP C H r F q) {a : Addr} (ha : H a = none) : a ∉ F.all r := fun m => by
  obtain ⟨o, e, _⟩ := h.there a m
  rw [ha] at e
  cases e

/-! ### what a chip's pages tell: the book found again -/
abbrev Ct := List (Option (Int × Int))
def wrC (c : Ct) (i : Nat) : Prop := c.getD i none ≠ none
def stC (c : Ct) (i : Nat) : Int := ((c.getD i none).getD (0, 0)).1 / 128
def nmC (c : Ct) (i : Nat) : Int := ((c.getD i none).getD (0, 0)).1 % 128
def vlC (c : Ct) (i : Nat) : Int := ((c.getD i none).getD (0, 0)).2
def bitZ (v n : Int) : Bool := v.toNat.testBit n.toNat
theorem mk_st {st n : Int} (h : 0 ≤ n ∧ n ≤ 64) : mk st n / 128 = st ∧ mk st n % 128 = n := by
  unfold mk
  omega
/-- pages as a store leaves them -/
structure Rb0 (c : Ct) (k : Bk) : Prop where
  rng : ∀ i, wrC c i → 1 ≤ stC c i ∧ stC c i < k.stamp ∧ nmC c i ≤ 64 ∧ 0 ≤ vlC c i ∧ vlC c i < 10 ^ 30 ∧ (nmC c i = 64 → vlC c i < 2 ^ 64)
  inj : ∀ i j, wrC c i → wrC c j → stC c i = stC c j → i = j
  srt : k.wh.Pairwise fun a b => stC c a.2.toNat < stC c b.2.toNat
  wr : ∀ n pg, getI k.wh n = some pg → wrC c pg.toNat ∧ nmC c pg.toNat = n ∧ ∀ j, wrC c j → nmC c j = n → stC c j ≤ stC c pg.toNat
  fil : ∀ n j : Nat, n < k.b.toNat → j < k.p.toNat → (wrC c (n * k.p.toNat + j) ↔ (j : Int) < k.fil.getD n 0)
  born : ∀ n : Nat, n < k.b.toNat → k.born.getD n 0 = if k.fil.getD n 0 = 0 then 0 else stC c (n * k.p.toNat)
  asc : ∀ n j : Nat, n < k.b.toNat → j + 1 < k.p.toNat → wrC c (n * k.p.toNat + (j + 1)) → stC c (n * k.p.toNat + j) < stC c (n * k.p.toNat + (j + 1))
  last : (k.stamp = 1 ∧ ∀ i, ¬ wrC c i) ∨ ∃ n pg, getI k.wh n = some pg ∧ stC c pg.toNat = k.stamp - 1
structure Roll (c : Ct) (k : Bk) : Prop where
  gone : ∀ i, wrC c i → getI k.wh (nmC c i) = none → ∃ rp, getI k.wh 64 = some rp ∧ stC c i < stC c rp.toNat ∧ bitZ (vlC c rp.toNat) (nmC c i) = false
  keep : ∀ n pg rp, getI k.wh n = some pg → n ≠ 64 → getI k.wh 64 = some rp → stC c pg.toNat < stC c rp.toNat → bitZ (vlC c rp.toNat) n = true
def AllN (c : Ct) (k : Bk) : Prop := ∀ i, wrC c i → getI k.wh (nmC c i) ≠ none
/-- one page more -/
structure Pl (c : Ct) (k : Bk) (to : Nat) (m : Nat) (x n v : Int) : Prop where
  lt : m < k.b.toNat
  f0 : 0 ≤ k.fil.getD m 0
  f1 : k.fil.getD m 0 < k.p
  eq : to = m * k.p.toNat + (k.fil.getD m 0).toNat
  blk : ((to : Int) / k.p).toNat = m
  free : ¬ wrC c to
  len : to < c.length
  fl : k.fil.length = k.b.toNat ∧ k.born.length = k.b.toNat
  st : k.stamp ≤ x ∧ 1 ≤ x
  nr : 0 ≤ n ∧ n ≤ 64
  vr : 0 ≤ v ∧ v < 10 ^ 30 ∧ (n = 64 → v < 2 ^ 64)
def setC (c : Ct) (to : Nat) (x n v : Int) : Ct := c.set to (some (mk x n, v))
theorem setC_get {c : Ct} {k : Bk} {to m : Nat} {x n v : Int} (P : Pl c k to m x n v) (i : Nat) : (setC c to x n v).getD i none = if i = to then some (mk x n, v) else c.getD i none := getD_set P.len
theorem setC_at {c : Ct} {k : Bk} {to m : Nat} {x n v : Int} (P : Pl c k to m x n v) : wrC (setC c to x n v) to ∧ stC (setC c to x n v) to = x ∧ nmC (setC c to x n v) to = n ∧ vlC (setC c to x n v) to = v := by
  unfold wrC stC nmC vlC
  rw [setC_get P, if_pos rfl]
  have := mk_st (st := x) P.nr
  exact ⟨(fun z => by cases z), this.1, this.2, rfl⟩
theorem setC_ne {c : Ct} {k : Bk} {to m : Nat} {x n v : Int} (P : Pl c k to m x n v) {i : Nat} (h : i ≠ to) : (wrC (setC c to x n v) i ↔ wrC c i) ∧ stC (setC c to x n v) i = stC c i ∧ nmC (setC c to x n v) i = nmC c i ∧ vlC (setC c to x n v) i = vlC c i := by
  unfold wrC stC nmC vlC
  rw [setC_get P, if_neg h]
  exact ⟨Iff.rfl, rfl, rfl, rfl⟩
def Bk.at (k : Bk) (x : Int) : Bk := { k with stamp := x }
theorem noteA_fil {k : Bk} {x pg n : Int} : ((k.at x).note pg n).fil = k.fil.set (pg / k.p).toNat (k.fil.getD (pg / k.p).toNat 0 + 1) := note_fil
theorem noteA_wh {k : Bk} {x pg n m : Int} : getI ((k.at x).note pg n).wh m = if m = n then some pg else getI k.wh m := note_wh
theorem noteA_st {k : Bk} {x pg n : Int} : ((k.at x).note pg n).stamp = x + 1 := note_st
theorem noteA_bp {k : Bk} {x pg n : Int} : ((k.at x).note pg n).b = k.b ∧ ((k.at x).note pg n).p = k.p := note_bp
theorem note_born {k : Bk} {pg n : Int} : (k.note pg n).born = if k.fil.getD (pg / k.p).toNat 0 = 0 then k.born.set (pg / k.p).toNat k.stamp else k.born := by
  show (if (k.drop n).fil.getD (pg / k.p).toNat 0 = 0 then (k.drop n).born.set (pg / k.p).toNat (k.drop n).stamp else (k.drop n).born) = _
  rw [drop_fil, drop_bn, drop_st]
theorem noteA_born {k : Bk} {x pg n : Int} : ((k.at x).note pg n).born = if k.fil.getD (pg / k.p).toNat 0 = 0 then k.born.set (pg / k.p).toNat x else k.born := note_born
theorem noteA_whE {k : Bk} {x pg n : Int} : ((k.at x).note pg n).wh = (k.drop n).wh ++ [(n, pg)] := by
  rw [note_whE, drop_whE, drop_whE]
  rfl
theorem drop_sub {k : Bk} {n : Int} : (k.drop n).wh.Sublist k.wh := by
  rw [drop_whE]
  cases getI k.wh n with
  | none => exact List.Sublist.refl _
  | some x => exact List.filter_sublist
theorem Pl.nlt {c : Ct} {k : Bk} {to m : Nat} {x n v : Int} (P : Pl c k to m x n v) {a j : Nat} (hj : j < k.p.toNat) (e : a * k.p.toNat + j = to) : a = m ∧ (j : Int) = k.fil.getD m 0 := by
  have h0 := P.f0
  have h1 := P.f1
  have := place_inj (p := k.p.toNat) (n := a) (m := m) (i := j) (j := (k.fil.getD m 0).toNat) hj (by omega) (e.trans P.eq)
  omega
theorem Rb0.put {c : Ct} {k : Bk} {to m : Nat} {x n v : Int} (h : Rb0 c k) (keys : (k.wh.map (·.1)).Nodup) (P : Pl c k to m x n v) : Rb0 (setC c to x n v) ((k.at x).note to n) := by
  obtain ⟨a1, a2, a3, a4⟩ := setC_at P
  have ne : ∀ {i}, i ≠ to → _ := fun {i} (hi : i ≠ to) => setC_ne P hi
  have old : ∀ i, wrC c i → i ≠ to := fun i hi z => P.free (z ▸ hi)
  have hx := P.st
  refine ⟨fun i hi => ?_, fun i j hi hj e => ?_, ?_, fun a pg hg => ?_, fun a j ha hj => ?_, fun a ha => ?_, fun a j ha hj hw => ?_, .inr ⟨n, to, ?_, ?_⟩⟩
  · rw [noteA_st]
    by_cases e : i = to
    · subst e
      rw [a2, a3, a4]
      have := P.nr
      have := P.vr
      exact ⟨by omega, by omega, by omega, by omega, by omega, P.vr.2.2⟩
    · obtain ⟨b1, b2, b3, b4⟩ := ne e
      rw [b2, b3, b4]
      obtain ⟨c1, c2, c3⟩ := h.rng i (b1.mp hi)
      exact ⟨c1, by omega, c3⟩
  · by_cases e1 : i = to
    · by_cases e2 : j = to
      · rw [e1, e2]
      · subst e1
        rw [a2, (ne e2).2.1] at e
        have := (h.rng j ((ne e2).1.mp hj)).2.1
        omega
    · by_cases e2 : j = to
      · subst e2
        rw [a2, (ne e1).2.1] at e
        have := (h.rng i ((ne e1).1.mp hi)).2.1
        omega
      · rw [(ne e1).2.1, (ne e2).2.1] at e
        exact h.inj i j ((ne e1).1.mp hi) ((ne e2).1.mp hj) e
  · have lv : ∀ e ∈ (k.drop n).wh, e.2.toNat ≠ to ∧ stC c e.2.toNat < x := fun e he => by
      have hg := getI_of_mem keys (n := e.1) (x := e.2) (drop_whm e he)
      obtain ⟨w1, _⟩ := h.wr _ _ hg
      have := (h.rng _ w1).2.1
      exact ⟨old _ w1, by omega⟩
    rw [noteA_whE, List.pairwise_append]
    refine ⟨List.Pairwise.imp_of_mem (fun {y z} hy hz q => ?_) (h.srt.sublist drop_sub), List.pairwise_singleton _ _, fun y hy z hz => ?_⟩
    · rw [(ne (lv y hy).1).2.1, (ne (lv z hz).1).2.1]
      exact q
    · rw [List.mem_singleton.mp hz, (ne (lv y hy).1).2.1]
      show _ < stC _ ((to : Int)).toNat
      rw [Int.toNat_natCast, a2]
      exact (lv y hy).2
  · rw [noteA_wh] at hg
    by_cases e : a = n
    · rw [if_pos e] at hg
      have hg : (to : Int) = pg := by injection hg
      subst hg e
      rw [Int.toNat_natCast]
      refine ⟨a1, a3, fun j hj hn => ?_⟩
      rw [a2]
      by_cases ej : j = to
      · rw [ej, a2]; exact Int.le_refl _
      · rw [(ne ej).2.1]
        have := (h.rng j ((ne ej).1.mp hj)).2.1
        omega
    · rw [if_neg e] at hg
      obtain ⟨w1, w2, w3⟩ := h.wr _ _ hg
      have hne := old _ w1
      rw [(ne hne).2.1, (ne hne).2.2.1]
      refine ⟨(ne hne).1.mpr w1, w2, fun j hj hn => ?_⟩
      by_cases ej : j = to
      · rw [ej, a3] at hn
        exact absurd hn.symm e
      · rw [(ne ej).2.1]
        rw [(ne ej).2.2.1] at hn
        exact w3 j ((ne ej).1.mp hj) hn
  · rw [noteA_bp.1] at ha
    rw [noteA_bp.2] at hj ⊢
    rw [noteA_fil, P.blk, getD_set (by rw [P.fl.1]; exact P.lt)]
    by_cases e : a * k.p.toNat + j = to
    · obtain ⟨e1, e2⟩ := P.nlt hj e
      rw [e, if_pos e1]
      exact ⟨fun _ => by omega, fun _ => a1⟩
    · rw [(ne e).1, h.fil a j ha hj]
      by_cases e1 : a = m
      · rw [if_pos e1, e1]
        have : (j : Int) ≠ k.fil.getD m 0 := fun z => e (by rw [P.eq, e1]; omega)
        omega
      · rw [if_neg e1]
  · rw [noteA_bp.1] at ha
    rw [noteA_bp.2, noteA_fil, noteA_born, P.blk, getD_set (by rw [P.fl.1]; exact P.lt)]
    have hf := h.born a ha
    have h0 := P.f0
    have hp : 0 < k.p.toNat := by have := P.f1; omega
    by_cases e1 : a = m
    · subst e1
      rw [if_pos rfl, if_neg (show ¬ (k.fil.getD a 0 + 1 = 0) by omega)]
      split
      · rename_i z
        rw [getD_set (by rw [P.fl.2]; exact P.lt), if_pos rfl]
        have : a * k.p.toNat = to := by rw [P.eq, z]; rfl
        rw [this, a2]
      · rename_i z
        rw [hf, if_neg z]
        have : a * k.p.toNat ≠ to := fun y => by
          have := P.nlt (a := a) (j := 0) hp (by rw [Nat.add_zero]; exact y)
          omega
        rw [(ne this).2.1]
    · rw [if_neg e1]
      have : a * k.p.toNat ≠ to := fun y => by
        have := P.nlt (a := a) (j := 0) hp (by rw [Nat.add_zero]; exact y)
        omega
      rw [(ne this).2.1]
      split
      · rw [getD_set (by rw [P.fl.2]; exact P.lt), if_neg e1]; exact hf
      · exact hf
  · rw [noteA_bp.1] at ha
    rw [noteA_bp.2] at hj hw ⊢
    by_cases e : a * k.p.toNat + (j + 1) = to
    · obtain ⟨e1, e2⟩ := P.nlt hj e
      have e3 : a * k.p.toNat + j ≠ to := by omega
      rw [e, a2, (ne e3).2.1]
      have hw : wrC c (a * k.p.toNat + j) := (h.fil a j ha (by omega)).mpr (by rw [e1]; omega)
      have := (h.rng _ hw).2.1
      omega
    · have hw' := (ne e).1.mp hw
      have hw2 : wrC c (a * k.p.toNat + j) := (h.fil a j ha (by omega)).mpr (by have := (h.fil a (j + 1) ha hj).mp hw'; omega)
      rw [(ne e).2.1, (ne (old _ hw2)).2.1]
      exact h.asc a j ha hj hw'
  · rw [noteA_wh, if_pos rfl]
  · rw [Int.toNat_natCast, a2, noteA_st]
    omega
theorem AllN.put {c : Ct} {k : Bk} {to m : Nat} {x n v : Int} (h : AllN c k) (P : Pl c k to m x n v) : AllN (setC c to x n v) ((k.at x).note to n) := fun i hi => by
  obtain ⟨a1, a2, a3, a4⟩ := setC_at P
  rw [noteA_wh]
  by_cases e : i = to
  · rw [e, a3, if_pos rfl]
    exact fun z => by cases z
  · obtain ⟨b1, b2, b3, b4⟩ := setC_ne P e
    rw [b3]
    split
    · exact fun z => by cases z
    · exact h i (b1.mp hi)
theorem Roll.put {c : Ct} {k : Bk} {to m : Nat} {x n v : Int} (r : Rb0 c k) (h : Roll c k) (P : Pl c k to m x n v) (hn : n ≠ 64) : Roll (setC c to x n v) ((k.at x).note to n) := by
  obtain ⟨a1, a2, a3, a4⟩ := setC_at P
  have old : ∀ i, wrC c i → i ≠ to := fun i hi z => P.free (z ▸ hi)
  have hx := P.st
  refine ⟨fun i hi hg => ?_, fun a pg rp hg ha hr hlt => ?_⟩
  · by_cases e : i = to
    · rw [e, a3, noteA_wh, if_pos rfl] at hg
      cases hg
    · obtain ⟨b1, b2, b3, b4⟩ := setC_ne P e
      rw [b3, noteA_wh] at hg
      split at hg
      · cases hg
      · obtain ⟨rp, g1, g2, g3⟩ := h.gone i (b1.mp hi) hg
        have hne := old _ (r.wr _ _ g1).1
        obtain ⟨d1, d2, d3, d4⟩ := setC_ne P hne
        exact ⟨rp, by rw [noteA_wh, if_neg (Ne.symm hn)]; exact g1, by rw [b2, d2]; exact g2, by rw [b3, d4]; exact g3⟩
  · rw [noteA_wh, if_neg (Ne.symm hn)] at hr
    have w1 := (r.wr _ _ hr).1
    obtain ⟨d1, d2, d3, d4⟩ := setC_ne P (old _ w1)
    rw [d2] at hlt
    rw [noteA_wh] at hg
    by_cases e : a = n
    · rw [if_pos e] at hg
      have hg : (to : Int) = pg := by injection hg
      rw [← hg, Int.toNat_natCast, a2] at hlt
      have := (r.rng _ w1).2.1
      omega
    · rw [if_neg e] at hg
      obtain ⟨b1, b2, b3, b4⟩ := setC_ne P (old _ (r.wr _ _ hg).1)
      rw [b2] at hlt
      rw [d4]
      exact h.keep a pg rp hg ha hr hlt
/-- the newest page is a roll -/
def NewR (c : Ct) (k : Bk) (rp : Int) : Prop := getI k.wh 64 = some rp ∧ stC c rp.toNat = k.stamp - 1
theorem Rb0.drop {c : Ct} {k : Bk} {n rp : Int} (h : Rb0 c k) (hR : NewR c k rp) (hn : n ≠ 64) : Rb0 c (k.drop n) ∧ NewR c (k.drop n) rp := by
  have e : NewR c (k.drop n) rp := ⟨by rw [drop_wh, if_neg (Ne.symm hn)]; exact hR.1, by rw [drop_st]; exact hR.2⟩
  refine ⟨⟨by rw [drop_st]; exact h.rng, h.inj, h.srt.sublist drop_sub, fun a pg hg => ?_, by rw [drop_b, drop_p, drop_fil]; exact h.fil, by rw [drop_b, drop_p, drop_fil, drop_bn]; exact h.born, by rw [drop_b, drop_p]; exact h.asc, .inr ⟨64, rp, e.1, e.2⟩⟩, e⟩
  rw [drop_wh] at hg
  split at hg
  · cases hg
  · exact h.wr _ _ hg
theorem Rb0.drops {c : Ct} {rp : Int} : ∀ {l : List Int} {k : Bk}, Rb0 c k → NewR c k rp → (∀ n ∈ l, n ≠ 64) → Rb0 c (k.drops l) ∧ NewR c (k.drops l) rp
  | [], _, h, hR, _ => ⟨h, hR⟩
  | n :: l, k, h, hR, hn => by
    obtain ⟨h1, h2⟩ := h.drop hR (hn n List.mem_cons_self)
    exact Rb0.drops (l := l) (k := k.drop n) h1 h2 fun m hm => hn m (List.mem_cons_of_mem _ hm)
theorem drops_whR {m : Int} : ∀ {l : List Int} {k : Bk}, getI (k.drops l).wh m = if m ∈ l then none else getI k.wh m
  | [], k => by rw [if_neg (by simp)]; rfl
  | n :: l, k => by
    show getI ((k.drop n).drops l).wh m = _
    rw [drops_whR (l := l), drop_wh]
    by_cases h1 : m ∈ l
    · rw [if_pos h1, if_pos (List.mem_cons_of_mem _ h1)]
    · rw [if_neg h1]
      by_cases h2 : m = n
      · rw [if_pos h2, if_pos (by rw [h2]; exact List.mem_cons_self)]
      · rw [if_neg h2, if_neg (fun z => (List.mem_cons.mp z).elim h2 h1)]
/-- behind a roll: what its bits don't name is dropped -/
theorem roll_of {c : Ct} {k : Bk} {rp : Int} {l : List Int} (h : Rb0 c k) (hR : NewR c k rp) (hl : ∀ n ∈ l, n ≠ 64) (h1 : ∀ n pg, getI k.wh n = some pg → n ≠ 64 → (n ∈ l ↔ bitZ (vlC c rp.toNat) n = false))
    (h2 : ∀ i, wrC c i → getI k.wh (nmC c i) = none → bitZ (vlC c rp.toNat) (nmC c i) = false) : Rb0 c (k.drops l) ∧ Roll c (k.drops l) := by
  obtain ⟨r1, r2⟩ := h.drops hR hl
  refine ⟨r1, fun i hi hg => ⟨rp, r2.1, ?_, ?_⟩, fun n pg rp2 hg hn hr _ => ?_⟩
  · have := (h.rng i hi).2.1
    have e := hR.2
    rcases Int.lt_trichotomy (stC c i) (stC c rp.toNat) with z | z | z
    · exact z
    · have w := h.wr _ _ hR.1
      have := h.inj _ _ hi w.1 z
      subst this
      rw [w.2.1, r2.1] at hg
      cases hg
    · omega
  · rw [drops_whR] at hg
    split at hg
    · rename_i hm
      cases hx : getI k.wh (nmC c i) with
      | none => exact h2 i hi hx
      | some pg => exact (h1 _ pg hx (hl _ hm)).mp hm
    · exact h2 i hi hg
  · have : rp2 = rp := by
      have := r2.1
      rw [hr] at this
      injection this
    subst this
    rw [drops_whR] at hg
    split at hg
    · cases hg
    · rename_i hm
      cases hb : bitZ (vlC c rp2.toNat) n with
      | true => rfl
      | false => exact absurd ((h1 n pg hg hn).mpr hb) hm
/-! a block is cleared -/
theorem blank_in {c : Ct} {s p i : Nat} (h : s ≤ i ∧ i < s + p) : ¬ wrC (blankP c s p) i := by
  unfold wrC
  rw [blankP_get, if_pos h]
  exact fun z => z rfl
theorem blank_out {c : Ct} {s p i : Nat} (h : ¬ (s ≤ i ∧ i < s + p)) : (wrC (blankP c s p) i ↔ wrC c i) ∧ stC (blankP c s p) i = stC c i ∧ nmC (blankP c s p) i = nmC c i ∧ vlC (blankP c s p) i = vlC c i := by
  unfold wrC stC nmC vlC
  rw [blankP_get, if_neg h]
  exact ⟨Iff.rfl, rfl, rfl, rfl⟩
theorem blank_wr {c : Ct} {s p i : Nat} (h : wrC (blankP c s p) i) : wrC c i ∧ stC (blankP c s p) i = stC c i ∧ nmC (blankP c s p) i = nmC c i ∧ vlC (blankP c s p) i = vlC c i := by
  by_cases hi : s ≤ i ∧ i < s + p
  · exact absurd h (blank_in hi)
  · obtain ⟨a, b⟩ := blank_out (c := c) hi
    exact ⟨a.mp h, b⟩
theorem in_block {p m pg : Int} (hp : 1 ≤ p) (hm : 0 ≤ m) (h0 : 0 ≤ pg) (h : m.toNat * p.toNat ≤ pg.toNat ∧ pg.toNat < m.toNat * p.toNat + p.toNat) : pg / p = m := by
  obtain ⟨m', rfl⟩ := Int.eq_ofNat_of_zero_le hm
  obtain ⟨p', rfl⟩ := Int.eq_ofNat_of_zero_le (show 0 ≤ p by omega)
  obtain ⟨g, rfl⟩ := Int.eq_ofNat_of_zero_le h0
  simp only [Int.toNat_natCast] at h
  have hp0 : 0 < p' := by omega
  rw [← Int.natCast_ediv]
  congr 1
  obtain ⟨j, hj⟩ := Nat.exists_eq_add_of_le h.1
  rw [hj, Nat.add_comm, Nat.add_mul_div_right _ _ hp0, Nat.div_eq_of_lt (by omega), Nat.zero_add]
theorem live_out {k : Bk} {m : Nat} (hb : BkOk k) (hno : NoLive k m) {n pg : Int} (hg : getI k.wh n = some pg) : ¬ (m * k.p.toNat ≤ pg.toNat ∧ pg.toNat < m * k.p.toNat + k.p.toNat) := fun z => by
  have hw := hb.wh _ (getI_mem hg)
  dsimp only at hw
  have hp := hb.p
  exact hno n pg hg (in_block (m := (m : Int)) (by omega) (Int.natCast_nonneg _) hw.1 (by rw [Int.toNat_natCast]; exact z))
theorem empt_fil {k : Bk} {m a : Nat} (hl : m < k.fil.length) : (k.empt (m : Int)).fil.getD a 0 = if a = m then 0 else k.fil.getD a 0 := by
  show (k.fil.set (m : Int).toNat 0).getD a 0 = _
  rw [Int.toNat_natCast, getD_set hl]
theorem empt_born {k : Bk} {m a : Nat} (hl : m < k.born.length) : (k.empt (m : Int)).born.getD a 0 = if a = m then 0 else k.born.getD a 0 := by
  show (k.born.set (m : Int).toNat 0).getD a 0 = _
  rw [Int.toNat_natCast, getD_set hl]
theorem Rb0.wipe {c : Ct} {k : Bk} {m : Nat} (h : Rb0 c k) (keys : (k.wh.map (·.1)).Nodup) (hb : BkOk k) (hm : m < k.b.toNat) (hno : NoLive k m) : Rb0 (blankP c (m * k.p.toNat) k.p.toNat) (k.empt (m : Int)) := by
  have hp := hb.p
  have hfl := hb.fil
  have hbl := hb.born
  have lo : ∀ {n pg}, getI k.wh n = some pg → _ := fun {n pg} (hg : getI k.wh n = some pg) => blank_out (c := c) (live_out hb hno hg)
  have other : ∀ {a j : Nat}, j < k.p.toNat → a ≠ m → ¬ (m * k.p.toNat ≤ a * k.p.toNat + j ∧ a * k.p.toNat + j < m * k.p.toNat + k.p.toNat) := fun {a j} hj ha z => by
    have := place_inj (p := k.p.toNat) (n := a) (m := m) (i := j) (j := a * k.p.toNat + j - m * k.p.toNat) hj (by omega) (by omega)
    exact ha this.1
  refine ⟨fun i hi => ?_, fun i j hi hj e => ?_, ?_, fun n pg hg => ?_, fun a j ha hj => ?_, fun a ha => ?_, fun a j ha hj hw => ?_, ?_⟩
  · obtain ⟨w, e1, e2, e3⟩ := blank_wr hi
    rw [e1, e2, e3]
    exact h.rng i w
  · obtain ⟨w1, e1, _⟩ := blank_wr hi
    obtain ⟨w2, e2, _⟩ := blank_wr hj
    rw [e1, e2] at e
    exact h.inj i j w1 w2 e
  · refine List.Pairwise.imp_of_mem (fun {x y} hx hy z => ?_) h.srt
    have out : ∀ e ∈ k.wh, ¬ (m * k.p.toNat ≤ e.2.toNat ∧ e.2.toNat < m * k.p.toNat + k.p.toNat) := fun e he => live_out hb hno (getI_of_mem keys (n := e.1) (x := e.2) he)
    rw [(blank_out (out x hx)).2.1, (blank_out (out y hy)).2.1]
    exact z
  · obtain ⟨b1, b2, b3, b4⟩ := lo hg
    obtain ⟨w1, w2, w3⟩ := h.wr _ _ hg
    rw [b2, b3]
    refine ⟨b1.mpr w1, w2, fun j hj hn => ?_⟩
    obtain ⟨v1, v2, v3, _⟩ := blank_wr hj
    rw [v2]
    rw [v3] at hn
    exact w3 j v1 hn
  · show wrC (blankP c (m * k.p.toNat) k.p.toNat) (a * k.p.toNat + j) ↔ _
    have hj : j < k.p.toNat := hj
    have ha : a < k.b.toNat := ha
    rw [empt_fil (by omega)]
    by_cases e : a = m
    · rw [if_pos e, e]
      exact ⟨fun z => absurd z (blank_in ⟨by omega, by omega⟩), fun z => by omega⟩
    · rw [if_neg e, (blank_out (other hj e)).1]
      exact h.fil a j ha hj
  · have ha : a < k.b.toNat := ha
    show _ = if _ then _ else stC (blankP c (m * k.p.toNat) k.p.toNat) (a * k.p.toNat)
    rw [empt_fil (by omega), empt_born (by omega)]
    by_cases e : a = m
    · rw [if_pos e, if_pos e, if_pos rfl]
    · rw [if_neg e, if_neg e, h.born a ha, (blank_out (by have := other (a := a) (j := 0) (by omega) e; rw [Nat.add_zero] at this; exact this)).2.1]
  · have hj : j + 1 < k.p.toNat := hj
    have ha : a < k.b.toNat := ha
    show stC (blankP c (m * k.p.toNat) k.p.toNat) (a * k.p.toNat + j) < stC (blankP c (m * k.p.toNat) k.p.toNat) (a * k.p.toNat + (j + 1))
    have hw : wrC (blankP c (m * k.p.toNat) k.p.toNat) (a * k.p.toNat + (j + 1)) := hw
    by_cases e : a = m
    · rw [e] at hw
      exact absurd hw (blank_in ⟨by omega, by omega⟩)
    · rw [(blank_out (other (by omega) e)).2.1, (blank_out (other hj e)).2.1]
      exact h.asc a j ha hj ((blank_out (other hj e)).1.mp hw)
  · rcases h.last with ⟨z1, z2⟩ | ⟨n, pg, hg, e⟩
    · exact .inl ⟨z1, fun i hi => z2 i (blank_wr hi).1⟩
    · exact .inr ⟨n, pg, hg, by rw [(lo hg).2.1]; exact e⟩
theorem Roll.wipe {c : Ct} {k : Bk} {m : Nat} (h : Roll c k) (hb : BkOk k) (hno : NoLive k m) : Roll (blankP c (m * k.p.toNat) k.p.toNat) (k.empt (m : Int)) := by
  have lo : ∀ {n pg}, getI k.wh n = some pg → _ := fun {n pg} (hg : getI k.wh n = some pg) => blank_out (c := c) (live_out hb hno hg)
  refine ⟨fun i hi hg => ?_, fun n pg rp hg hn hr hlt => ?_⟩
  · obtain ⟨w, e1, e2, e3⟩ := blank_wr hi
    rw [e2] at hg
    obtain ⟨rp, g1, g2, g3⟩ := h.gone i w hg
    obtain ⟨b1, b2, b3, b4⟩ := lo g1
    exact ⟨rp, g1, by rw [e1, b2]; exact g2, by rw [e2, b4]; exact g3⟩
  · obtain ⟨b1, b2, b3, b4⟩ := lo hr
    rw [(lo hg).2.1, b2] at hlt
    rw [b4]
    exact h.keep n pg rp hg hn hr hlt

/-! ### there is one such book -/
theorem Rb0.half {c : Ct} {k k' : Bk} (hb : BkOk k) (hb' : BkOk k') (h : Rb0 c k) (r : Roll c k) (h' : Rb0 c k') (r' : Roll c k') {n pg : Int} (hg : getI k.wh n = some pg) : getI k'.wh n = some pg := by
  have same : ∀ {m a b : Int}, getI k.wh m = some a → getI k'.wh m = some b → a = b := fun {m a b} ha hb2 => by
    obtain ⟨w1, w2, w3⟩ := h.wr _ _ ha
    obtain ⟨v1, v2, v3⟩ := h'.wr _ _ hb2
    have := h.inj _ _ w1 v1 (Int.le_antisymm (v3 _ w1 w2) (w3 _ v1 v2))
    have p1 := (hb.wh _ (getI_mem ha)).1
    have p2 := (hb'.wh _ (getI_mem hb2)).1
    dsimp only at p1 p2
    omega
  cases hx : getI k'.wh n with
  | some pg' => rw [same hg hx]
  | none =>
    obtain ⟨w1, w2, w3⟩ := h.wr _ _ hg
    obtain ⟨rp', g1, g2, g3⟩ := r'.gone pg.toNat w1 (by rw [w2]; exact hx)
    rw [w2] at g3
    have hn : n ≠ 64 := fun z => by rw [z, g1] at hx; cases hx
    obtain ⟨v1, v2, v3⟩ := h'.wr _ _ g1
    cases hy : getI k.wh 64 with
    | none =>
      obtain ⟨rp, y1, _⟩ := r.gone rp'.toNat v1 (by rw [v2]; exact hy)
      rw [hy] at y1
      cases y1
    | some rp =>
      have e := same hy g1
      subst e
      have := r.keep n pg rp hg hn hy g2
      rw [g3] at this
      cases this
theorem wh_eq {c : Ct} {l l' : List (Int × Int)} (hk : (l.map (·.1)).Nodup) (hk' : (l'.map (·.1)).Nodup) (hs : l.Pairwise fun a b => stC c a.2.toNat < stC c b.2.toNat) (hs' : l'.Pairwise fun a b => stC c a.2.toNat < stC c b.2.toNat)
    (e : ∀ n, getI l n = getI l' n) : l = l' := by
  have nd : ∀ {l : List (Int × Int)}, (l.map (·.1)).Nodup → l.Nodup := fun {l} h => List.Pairwise.of_map (fun e : Int × Int => e.1) (fun a b (h : a.1 ≠ b.1) (z : a = b) => h (by rw [z])) h
  have mem : ∀ {l l' : List (Int × Int)}, (l.map (·.1)).Nodup → (∀ n, getI l n = getI l' n) → ∀ x, x ∈ l → x ∈ l' := fun {l l'} h e x hx => by
    have := getI_of_mem h (n := x.1) (x := x.2) hx
    rw [e] at this
    exact getI_mem this
  refine List.Perm.eq_of_pairwise (le := fun a b => stC c a.2.toNat < stC c b.2.toNat) (fun a b _ _ h1 h2 => by omega) hs hs' ((List.perm_ext_iff_of_nodup (nd hk) (nd hk')).mpr fun x => ⟨mem hk e x, mem hk' (fun n => (e n).symm) x⟩)
theorem Rb0.uniq {c : Ct} {q q' : Pc} {k k' : Bk} (w : Wf q k) (w' : Wf q' k') (eb : k'.b = k.b) (ep : k'.p = k.p) (h : Rb0 c k) (r : Roll c k) (h' : Rb0 c k') (r' : Roll c k') : k = k' := by
  have ge : ∀ n, getI k.wh n = getI k'.wh n := fun n => by
    cases hx : getI k.wh n with
    | some pg => exact (Rb0.half w.bk w'.bk h r h' r' hx).symm
    | none =>
      cases hy : getI k'.wh n with
      | none => rfl
      | some pg =>
        have := Rb0.half w'.bk w.bk h' r' h r hy
        rw [hx] at this
        cases this
  have ew : k.wh = k'.wh := wh_eq w.keys w'.keys h.srt h'.srt ge
  have hp := w.bk.p
  have hp' := w'.bk.p
  have hbb := w.bk.b
  have ext : ∀ {l l' : List Int}, (l.length : Int) = k.b → (l'.length : Int) = k'.b → (∀ n : Nat, n < k.b.toNat → l.getD n 0 = l'.getD n 0) → l = l' := fun {l l'} h1 h2 h3 => by
    refine List.ext_getElem? fun i => ?_
    by_cases hi : i < k.b.toNat
    · have := h3 i hi
      rw [List.getD_eq_getElem?_getD, List.getD_eq_getElem?_getD, List.getElem?_eq_getElem (by omega), List.getElem?_eq_getElem (by omega)] at this
      rw [List.getElem?_eq_getElem (by omega), List.getElem?_eq_getElem (by omega)]
      exact congrArg some this
    · rw [List.getElem?_eq_none (by omega), List.getElem?_eq_none (by omega)]
  have hfl : ∀ n : Nat, n < k.b.toNat → k.fil.getD n 0 = k'.fil.getD n 0 := fun n hn => by
    have f0 := w.fil n
    have f1 := w'.fil n
    have key : ∀ {x y : Int}, 0 ≤ x → x ≤ k.p → 0 ≤ y → y ≤ k.p → (∀ j : Nat, j < k.p.toNat → ((j : Int) < x ↔ (j : Int) < y)) → x ≤ y := fun {x y} a1 a2 b1 b2 hh => by
      by_cases hle : x ≤ y
      · exact hle
      · have := (hh y.toNat (by omega)).mp (by omega)
        omega
    have eq : ∀ j : Nat, j < k.p.toNat → ((j : Int) < k.fil.getD n 0 ↔ (j : Int) < k'.fil.getD n 0) := fun j hj => by
      rw [← h.fil n j hn hj, ← h'.fil n j (by rw [eb]; exact hn) (by rw [ep]; exact hj), ep]
    rw [ep] at f1
    exact Int.le_antisymm (key f0.1 f0.2 f1.1 f1.2 eq) (key f1.1 f1.2 f0.1 f0.2 fun j hj => (eq j hj).symm)
  have efil : k.fil = k'.fil := ext w.bk.fil w'.bk.fil hfl
  have eborn : k.born = k'.born := ext w.bk.born w'.bk.born fun n hn => by
    rw [h.born n hn, h'.born n (by rw [eb]; exact hn), hfl n hn, ep]
  have elive : k.live = k'.live := ext w.bk.live w'.bk.live fun n hn => by
    have e1 := w.kb
    have e2 := w'.kb
    rw [w.lv n (by omega), w'.lv n (by omega), ew, ep]
  have enm : k.nm = k'.nm := by
    have l1 := w.bk.nm
    have l2 := w'.bk.nm
    rw [eb, ep] at l2
    refine List.ext_getElem? fun i => ?_
    by_cases hi : i < k.nm.length
    · have key : k.nm.getD i .non = k'.nm.getD i .non := by
        rcases w.nms i with z | ⟨a, z1, z2⟩
        · rw [z]
          rcases w'.nms i with y | ⟨b, y1, y2⟩
          · exact y.symm
          · rw [← ge] at y2
            have := (w.own _ _ y2).2
            rw [Int.toNat_natCast, z] at this
            cases this
        · rw [ge] at z2
          have := (w'.own _ _ z2).2
          rw [Int.toNat_natCast] at this
          rw [z1, this]
      rw [List.getD_eq_getElem?_getD, List.getD_eq_getElem?_getD, List.getElem?_eq_getElem hi, List.getElem?_eq_getElem (by omega)] at key
      rw [List.getElem?_eq_getElem hi, List.getElem?_eq_getElem (by omega)]
      exact congrArg some key
    · rw [List.getElem?_eq_none (by omega), List.getElem?_eq_none (by omega)]
  have est : k.stamp = k'.stamp := by
    have lo : ∀ {a b : Bk}, Rb0 c a → Rb0 c b → (∀ n, getI a.wh n = getI b.wh n) → a.stamp ≤ b.stamp ∨ (b.stamp = 1 ∧ ∀ i, ¬ wrC c i) := fun {a b} ha hb2 e => by
      rcases hb2.last with z | ⟨n, pg, g, es⟩
      · exact .inr z
      · rcases ha.last with ⟨z, _⟩ | ⟨n2, pg2, g2, es2⟩
        · have := (hb2.rng _ (hb2.wr _ _ g).1).1
          omega
        · have := (hb2.rng _ (ha.wr _ _ g2).1).2.1
          omega
    rcases lo h h' ge with z1 | ⟨z1, z2⟩
    · rcases lo h' h (fun n => (ge n).symm) with y1 | ⟨y1, y2⟩
      · omega
      · rcases h'.last with ⟨x1, _⟩ | ⟨_, _, g, _⟩
        · omega
        · exact absurd (h'.wr _ _ g).1 (y2 _)
    · rcases h.last with ⟨x1, _⟩ | ⟨_, _, g, _⟩
      · omega
      · exact absurd (h.wr _ _ g).1 (z2 _)
  obtain ⟨b, p, wh, nm, live, fil, born, stamp⟩ := k
  obtain ⟨b', p', wh', nm', live', fil', born', stamp'⟩ := k'
  dsimp only at *
  rw [eb, ep, ew, enm, elive, efil, eborn, est]

/-! ### the book found from the pages -/
structure Row where
  st : Int
  pg : Int
  nm : Int
  v : Int
def rowC (c : Ct) (i : Nat) : Option Row := (c.getD i none).map fun e => ⟨e.1 / 128, (i : Int), e.1 % 128, e.2⟩
def rowsC (c : Ct) : List Row := (List.range c.length).filterMap (rowC c)
def rowsQ (c : Ct) : List Row := (rowsC c).mergeSort fun a b => decide (a.st ≤ b.st)
def newR (a : Int) (l : List Row) : Int := l.foldl (fun a r => if r.nm = 64 then r.st else a) a
def keptV (v : Int) : List Int := zI (shN v.toNat)
def cutN (k : Bk) (v : Int) : List Int := (heldL k).filter fun n => !decide (n ∈ keptV v)
def stepR (N : Int) (k : Bk) (r : Row) : Bk := if r.st = N then ((k.at r.st).note r.pg r.nm).drops (cutN ((k.at r.st).note r.pg r.nm) r.v) else (k.at r.st).note r.pg r.nm
def bookR (b p : Int) (l : List Row) : Bk := l.foldl (stepR (newR 0 l)) (Bk.new b p)
theorem newR_split : ∀ (l : List Row) (a : Int), ((∀ r ∈ l, r.nm ≠ 64) ∧ newR a l = a) ∨ ∃ pre R post, l = pre ++ R :: post ∧ R.nm = 64 ∧ (∀ r ∈ post, r.nm ≠ 64) ∧ newR a l = R.st
  | [], a => .inl ⟨(fun r h => by cases h), rfl⟩
  | x :: l, a => by
    rcases newR_split l (if x.nm = 64 then x.st else a) with ⟨h1, h2⟩ | ⟨pre, R, post, h1, h2, h3, h4⟩
    · by_cases hx : x.nm = 64
      · refine .inr ⟨[], x, l, rfl, hx, h1, ?_⟩
        show newR _ l = _
        rw [h2, if_pos hx]
      · refine .inl ⟨fun r hr => ?_, ?_⟩
        · rcases List.mem_cons.mp hr with rfl | hr
          · exact hx
          · exact h1 r hr
        · show newR _ l = _
          rw [h2, if_neg hx]
    · exact .inr ⟨x :: pre, R, post, by rw [h1]; rfl, h2, h3, h4⟩
theorem Wf.at {q : Pc} {k : Bk} {x : Int} (h : Wf q k) (hx : k.stamp ≤ x) (hx2 : x < 10 ^ 40) : Wf q (k.at x) :=
  ⟨h.kb, h.kp, h.ctl, ⟨h.bk.b, h.bk.p, h.bk.nm, h.bk.live, h.bk.fil, h.bk.born, h.bk.wh, h.bk.whl, ⟨by have := h.bk.st.1; show 0 ≤ x; omega, hx2⟩⟩, h.fil, h.clear, h.keys, h.rng, h.own, h.nms, h.lv, fun n => by
    have := h.bn n
    show 0 ≤ k.born.getD n 0 ∧ k.born.getD n 0 < x
    omega, h.cb⟩
theorem range_one {m : Nat} : ∀ {b : Nat}, (List.range b).filter (fun n => decide (n = m)) = if m < b then [m] else []
  | 0 => by simp
  | b + 1 => by
    rw [List.range_succ, List.filter_append, range_one (b := b)]
    by_cases h : m < b
    · rw [if_pos h, if_pos (by omega), List.filter_cons_of_neg (by simp; omega)]
      rfl
    · rw [if_neg h]
      by_cases e : m = b
      · rw [if_pos (by omega), List.filter_cons_of_pos (by simp [e])]
        simp [e]
      · rw [if_neg (by omega), List.filter_cons_of_neg (by simp; omega)]
        rfl
theorem wf_putP {q : Pc} {k : Bk} {to m : Nat} {x n v : Int} (w : Wf q k) (P : Pl q.ct k to m x n v) (hx : x + 1 < 10 ^ 40) : ∃ q', Wf q' ((k.at x).note to n) ∧ q'.ct = setC q.ct to x n v ∧ q'.b = q.b ∧ q'.p = q.p := by
  have hst := P.st
  have hm : m < q.b.toNat := by have := P.lt; rw [w.kb] at this; exact this
  have w0 : Wf { q with broken := (List.range q.b.toNat).map fun i => !decide (i = m) } (k.at x) := (w.chip (q' := { q with broken := (List.range q.b.toNat).map fun i => !decide (i = m) }) rfl rfl rfl rfl (Nat.le_refl _)).at hst.1 (by omega)
  generalize hq0 : ({ q with broken := (List.range q.b.toNat).map fun i => !decide (i = m) } : Pc) = q0 at w0
  have e1 : q0.b = q.b := by rw [← hq0]
  have e2 : q0.p = q.p := by rw [← hq0]
  have e3 : q0.ct = q.ct := by rw [← hq0]
  have e4 : q0.broken = (List.range q.b.toNat).map fun i => !decide (i = m) := by rw [← hq0]
  have br : ∀ i, i < q.b.toNat → q0.broken.getD i false = !decide (i = m) := fun i hi => by
    rw [e4, List.getD_eq_getElem?_getD, List.getElem?_map, List.getElem?_range hi]
    rfl
  have hg : goodQ q0 = [m] := by
    unfold goodQ
    rw [e1, ← (show (List.range q.b.toNat).filter (fun n => decide (n = m)) = [m] by rw [range_one, if_pos hm])]
    refine List.filter_congr fun i hi => ?_
    rw [br i (List.mem_range.mp hi), Bool.not_not]
  have f0 := P.f0
  have f1 := P.f1
  have kp : k.p = q0.p := by rw [e2, w.kp]
  have hp := w.bk.p
  have nx : nextQ q0 (k.at x) = some m := by
    unfold nextQ
    cases hpo : partQ q0 (k.at x) with
    | some n =>
      have := partQ_mem hpo
      have hn : n ∈ goodQ q0 := good_of this.1 this.2.2.2
      rw [hg, List.mem_singleton] at hn
      rw [hn]
    | none =>
      have hz : (k.at x).fil.getD m 0 = 0 := by
        unfold partQ at hpo
        rw [hg, List.find?_cons] at hpo
        split at hpo
        · cases hpo
        · rename_i hh
          rw [Bool.and_eq_false_iff] at hh
          show k.fil.getD m 0 = 0
          rcases hh with z | z
          · have := of_decide_eq_false z
            have : ¬ 0 < k.fil.getD m 0 := this
            omega
          · have : ¬ k.fil.getD m 0 < q0.p := of_decide_eq_false z
            omega
      have : freeQ q0 (k.at x) = [(q0.clr.getD m 0, (m : Int))] := by
        unfold freeQ
        rw [hg, List.filter_cons_of_pos (by rw [hz]; rfl)]
        rfl
      rw [this, show sortP [(q0.clr.getD m 0, (m : Int))] = [(q0.clr.getD m 0, (m : Int))] from List.mergeSort_singleton _]
      rfl
  have blk : ((to : Nat) : Int) / q0.p = (m : Int) := by
    have := P.blk
    rw [kp] at this
    have h0 : 0 ≤ ((to : Nat) : Int) / q0.p := Int.ediv_nonneg (Int.natCast_nonneg _) (by omega)
    omega
  have eqI : ((to : Nat) : Int) = (m : Int) * q0.p + k.fil.getD m 0 := by
    have e := P.eq
    obtain ⟨p', hp'⟩ := Int.eq_ofNat_of_zero_le (show 0 ≤ k.p by omega)
    obtain ⟨f', hf'⟩ := Int.eq_ofNat_of_zero_le f0
    rw [← kp, hp', hf', e, hp', hf', Int.toNat_natCast, Int.toNat_natCast, Int.natCast_add, Int.natCast_mul]
  have sp : Spot q0 (k.at x) ((to : Nat) : Int) m := by
    refine ⟨nx, eqI, by rw [e1]; exact hm, f0, by rw [← kp]; exact f1, ?_, blk, by rw [Int.toNat_natCast, ← kp]; exact P.eq, Int.natCast_nonneg _, ?_⟩
    · rw [br m hm]; simp
    · have := w0.ctl
      have := P.len
      rw [← e3] at this
      omega
  refine ⟨{ q0 with ct := setC q.ct to x n v }, w0.put (q' := { q0 with ct := setC q.ct to x n v }) (e := (mk x n, v)) sp ⟨P.nr.1, P.nr.2⟩ (by show x + 1 < _; exact hx) rfl rfl ?_ rfl (Nat.le_refl _), rfl, e1, e2⟩
  show setC q.ct to x n v = _
  rw [e3, Int.toNat_natCast]
  rfl
/-- where the finding stands -/
structure MidR (c : Ct) (k : Bk) (q1 : Pc) (k1 : Bk) (rest : List Row) : Prop where
  rb : Rb0 q1.ct k1
  wf : Wf q1 k1
  eb : k1.b = k.b
  ep : k1.p = k.p
  len : q1.ct.length = c.length
  agr : ∀ i, wrC q1.ct i → q1.ct.getD i none = c.getD i none
  cov : ∀ i, wrC c i → ¬ wrC q1.ct i → ∃ r ∈ rest, r.pg = (i : Int)
  row : ∀ r ∈ rest, ∃ i, rowC c i = some r ∧ ¬ wrC q1.ct i
  srt : rest.Pairwise fun a b => a.st < b.st
  low : ∀ r ∈ rest, k1.stamp ≤ r.st
theorem rowC_some {c : Ct} {i : Nat} {r : Row} (h : rowC c i = some r) : wrC c i ∧ r.st = stC c i ∧ r.pg = (i : Int) ∧ r.nm = nmC c i ∧ r.v = vlC c i ∧ c.getD i none = some (mk r.st r.nm, r.v) := by
  unfold rowC at h
  cases e : c.getD i none with
  | none => rw [e] at h; cases h
  | some x =>
    rw [e] at h
    have h : (⟨x.1 / 128, (i : Int), x.1 % 128, x.2⟩ : Row) = r := by injection h
    subst h
    unfold wrC stC nmC vlC
    rw [e]
    refine ⟨(fun z => by cases z), rfl, rfl, rfl, rfl, ?_⟩
    unfold mk
    have : x.1 / 128 * 128 + x.1 % 128 = x.1 := by omega
    dsimp only
    rw [this]
theorem Rb0.asc2 {c : Ct} {k : Bk} (h : Rb0 c k) {n : Nat} (hn : n < k.b.toNat) {i : Nat} : ∀ {j : Nat}, i < j → j < k.p.toNat → wrC c (n * k.p.toNat + j) → stC c (n * k.p.toNat + i) < stC c (n * k.p.toNat + j)
  | 0, hi, _, _ => absurd hi (Nat.not_lt_zero _)
  | j + 1, hi, hj, hw => by
    have h1 := h.asc n j hn hj hw
    by_cases e : i = j
    · rw [e]; exact h1
    · have hw2 : wrC c (n * k.p.toNat + j) := (h.fil n j hn (by omega)).mpr (by have := (h.fil n (j + 1) hn hj).mp hw; omega)
      have := h.asc2 hn (i := i) (j := j) (by omega) (by omega) hw2
      omega
theorem MidR.pl {c : Ct} {k : Bk} {q1 : Pc} {k1 : Bk} {r : Row} {rest : List Row} (hc : Rb0 c k) (hl : (c.length : Int) = k.b * k.p) (M : MidR c k q1 k1 (r :: rest)) : ∃ i m : Nat, rowC c i = some r ∧ Pl q1.ct k1 i m r.st r.nm r.v := by
  obtain ⟨i, hi, hfree⟩ := M.row r List.mem_cons_self
  obtain ⟨w1, e1, e2, e3, e4, e5⟩ := rowC_some hi
  have hrg := hc.rng i w1
  have hp := M.wf.bk.p
  have hbb := M.wf.bk.b
  rw [M.ep] at hp
  rw [M.eb] at hbb
  have ilt : i < c.length := by
    by_cases z : i < c.length
    · exact z
    · exact absurd (by unfold wrC at w1; rw [List.getD_eq_getElem?_getD, List.getElem?_eq_none (by omega)] at w1; exact w1 rfl) id
  have hP0 : 0 < k.p.toNat := by omega
  have hbp : (k.b * k.p).toNat = k.b.toNat * k.p.toNat := by
    obtain ⟨a, ha⟩ := Int.eq_ofNat_of_zero_le (show 0 ≤ k.b by omega)
    obtain ⟨b, hb⟩ := Int.eq_ofNat_of_zero_le (show 0 ≤ k.p by omega)
    rw [ha, hb, ← Int.natCast_mul, Int.toNat_natCast, Int.toNat_natCast, Int.toNat_natCast]
  have hm : i / k.p.toNat < k.b.toNat := Nat.div_lt_of_lt_mul (by rw [Nat.mul_comm]; omega)
  have hj : i % k.p.toNat < k.p.toNat := Nat.mod_lt _ hP0
  have hij : i / k.p.toNat * k.p.toNat + i % k.p.toNat = i := by rw [Nat.mul_comm]; exact Nat.div_add_mod _ _
  generalize hmd : i / k.p.toNat = m at hm hij
  generalize hjd : i % k.p.toNat = j at hj hij
  have f := M.wf.fil m
  rw [M.ep] at f
  have hfil := M.rb.fil m
  rw [M.eb, M.ep] at hfil
  have a1 : ¬ (j : Int) < k1.fil.getD m 0 := fun z => hfree (by rw [← hij]; exact (hfil j hm hj).mpr z)
  have a2 : ¬ k1.fil.getD m 0 < (j : Int) := fun z => by
    obtain ⟨g, hg⟩ := Int.eq_ofNat_of_zero_le f.1
    have hgj : g < j := by omega
    have wj : wrC c (m * k.p.toNat + j) := by rw [hij]; exact w1
    have wg : wrC c (m * k.p.toNat + g) := (hc.fil m g hm (by omega)).mpr (by have := (hc.fil m j hm hj).mp wj; omega)
    have ng : ¬ wrC q1.ct (m * k.p.toNat + g) := fun y => by
      have := (hfil g hm (by omega)).mp y
      omega
    obtain ⟨r', hr', er'⟩ := M.cov _ wg ng
    have hlt := hc.asc2 hm hgj hj wj
    rw [hij, ← e1] at hlt
    obtain ⟨i', hi', _⟩ := M.row r' hr'
    obtain ⟨_, d1, d2, _⟩ := rowC_some hi'
    have ei : i' = m * k.p.toNat + g := by omega
    rw [ei] at d1
    rcases List.mem_cons.mp hr' with z2 | z2
    · rw [z2] at d1
      omega
    · have := (List.pairwise_cons.mp M.srt).1 r' z2
      omega
  have hlow := M.low r List.mem_cons_self
  have hfl := M.wf.bk.fil
  have hbl := M.wf.bk.born
  rw [M.eb] at hfl hbl
  refine ⟨i, m, hi, ⟨by rw [M.eb]; exact hm, f.1, by rw [M.ep]; omega, by rw [M.ep, ← hij]; omega, ?_, hfree, by rw [M.len]; exact ilt, by rw [M.eb]; omega, ⟨hlow, by rw [e1]; exact hrg.1⟩, ⟨by rw [e3]; unfold nmC; omega, by rw [e3]; exact hrg.2.2.1⟩, ⟨by rw [e4]; exact hrg.2.2.2.1, by rw [e4]; exact hrg.2.2.2.2.1, fun z => by rw [e4]; exact hrg.2.2.2.2.2 (e3 ▸ z)⟩⟩⟩
  rw [M.ep]
  obtain ⟨p', hp'⟩ := Int.eq_ofNat_of_zero_le (show 0 ≤ k.p by omega)
  rw [hp', ← Int.natCast_ediv, Int.toNat_natCast]
  rw [hp', Int.toNat_natCast] at hmd
  exact hmd
theorem MidR.step {c : Ct} {k : Bk} {q1 : Pc} {k1 : Bk} {r : Row} {rest : List Row} {i m : Nat} (hc : Rb0 c k) (hst : k.stamp < 10 ^ 39) (M : MidR c k q1 k1 (r :: rest)) (hi : rowC c i = some r) (P : Pl q1.ct k1 i m r.st r.nm r.v) :
    ∃ q2, MidR c k q2 ((k1.at r.st).note r.pg r.nm) rest ∧ q2.ct = setC q1.ct i r.st r.nm r.v := by
  obtain ⟨w1, e1, e2, e3, e4, e5⟩ := rowC_some hi
  have hrg := hc.rng i w1
  obtain ⟨q2, W, c1, c2, c3⟩ := wf_putP M.wf P (by omega)
  have hrb := M.rb.put M.wf.keys P
  rw [← e2] at W hrb
  have srt := List.pairwise_cons.mp M.srt
  refine ⟨q2, ⟨by rw [c1]; exact hrb, W, noteA_bp.1.trans M.eb, noteA_bp.2.trans M.ep, by rw [c1]; unfold setC; rw [List.length_set]; exact M.len, fun j hj => ?_, fun j hj hn => ?_, fun r' hr' => ?_, srt.2, fun r' hr' => ?_⟩, c1⟩
  · rw [c1, setC_get P]
    by_cases ej : j = i
    · rw [if_pos ej, ej, e5]
    · rw [if_neg ej]
      rw [c1] at hj
      exact M.agr j ((setC_ne P ej).1.mp hj)
  · by_cases ej : j = i
    · rw [c1, ej] at hn
      exact absurd (setC_at P).1 hn
    · rw [c1] at hn
      obtain ⟨r', hr', er'⟩ := M.cov j hj fun z => hn ((setC_ne P ej).1.mpr z)
      rcases List.mem_cons.mp hr' with z | z
      · rw [z, e2] at er'
        omega
      · exact ⟨r', z, er'⟩
  · obtain ⟨j, hj, hf⟩ := M.row r' (List.mem_cons_of_mem _ hr')
    refine ⟨j, hj, fun z => ?_⟩
    have hs := srt.1 r' hr'
    have ej : j ≠ i := fun y => by
      rw [y, hi] at hj
      have er : r = r' := by injection hj
      rw [← er] at hs
      omega
    rw [c1] at z
    exact hf ((setC_ne P ej).1.mp z)
  · rw [noteA_st]
    have := srt.1 r' hr'
    omega
theorem foldA {c : Ct} {k : Bk} {N : Int} (hc : Rb0 c k) (hl : (c.length : Int) = k.b * k.p) (hst : k.stamp < 10 ^ 39) {post : List Row} : ∀ {pre : List Row} {q1 : Pc} {k1 : Bk}, MidR c k q1 k1 (pre ++ post) → (∀ r ∈ pre, r.st ≠ N) →
    ∃ q2, MidR c k q2 (pre.foldl (stepR N) k1) post ∧ (AllN q1.ct k1 → AllN q2.ct (pre.foldl (stepR N) k1)) ∧ (Roll q1.ct k1 → (∀ r ∈ pre, r.nm ≠ 64) → Roll q2.ct (pre.foldl (stepR N) k1))
  | [], q1, k1, M, _ => ⟨q1, M, id, fun h _ => h⟩
  | r :: pre, q1, k1, M, hN => by
    obtain ⟨i, m, hi, P⟩ := M.pl hc hl
    obtain ⟨q2, M2, c2⟩ := M.step hc hst hi P
    have es : stepR N k1 r = (k1.at r.st).note r.pg r.nm := if_neg (hN r List.mem_cons_self)
    obtain ⟨q3, M3, a3, b3⟩ := foldA hc hl hst M2 fun r' hr' => hN r' (List.mem_cons_of_mem _ hr')
    have ep := (rowC_some hi).2.2.1
    rw [List.foldl_cons, es]
    refine ⟨q3, M3, fun h => a3 ?_, fun h hr => b3 ?_ fun r' hr' => hr r' (List.mem_cons_of_mem _ hr')⟩
    · rw [c2, ep]
      exact h.put P
    · rw [c2, ep]
      exact Roll.put M.rb h P (hr r List.mem_cons_self)
theorem rowsQ_mem {c : Ct} {r : Row} : r ∈ rowsQ c ↔ ∃ i, rowC c i = some r := by
  unfold rowsQ
  rw [(List.mergeSort_perm _ _).mem_iff]
  unfold rowsC
  rw [List.mem_filterMap]
  refine ⟨fun ⟨i, _, h⟩ => ⟨i, h⟩, fun ⟨i, h⟩ => ⟨i, List.mem_range.mpr ?_, h⟩⟩
  by_cases z : i < c.length
  · exact z
  · unfold rowC at h
    rw [List.getD_eq_getElem?_getD, List.getElem?_eq_none (by omega)] at h
    cases h
theorem rowsQ_srt {c : Ct} {k : Bk} (h : Rb0 c k) : (rowsQ c).Pairwise fun a b => a.st < b.st := by
  have h1 : (rowsC c).Pairwise fun a b => a.st ≠ b.st := by
    unfold rowsC
    refine List.pairwise_filterMap.mpr (List.Pairwise.imp (fun {i j} hij a ha b hb e => ?_) List.nodup_range)
    obtain ⟨w1, e1, _⟩ := rowC_some ha
    obtain ⟨w2, e2, _⟩ := rowC_some hb
    exact hij (h.inj i j w1 w2 (by rw [← e1, ← e2]; exact e))
  have h2 : (rowsQ c).Pairwise fun a b => a.st ≠ b.st := (List.Perm.pairwise_iff (fun {a b} z y => z y.symm) (List.mergeSort_perm _ _)).mpr h1
  have h3 : (rowsQ c).Pairwise fun a b => decide (a.st ≤ b.st) = true := List.pairwise_mergeSort (le := fun a b : Row => decide (a.st ≤ b.st)) (fun a b c z y => decide_eq_true (Int.le_trans (of_decide_eq_true z) (of_decide_eq_true y))) (fun a b => by
    rcases Int.le_total a.st b.st with z | z
    · rw [decide_eq_true z]; rfl
    · rw [decide_eq_true z, Bool.or_true]) _
  refine (h2.and h3).imp fun {a b} z => ?_
  have := of_decide_eq_true z.2
  have := z.1
  omega
theorem drops_bp : ∀ {l : List Int} {k : Bk}, (k.drops l).b = k.b ∧ (k.drops l).p = k.p
  | [], _ => ⟨rfl, rfl⟩
  | n :: l, k => by
    have := drops_bp (l := l) (k := k.drop n)
    exact ⟨this.1.trans drop_b, this.2.trans drop_p⟩
theorem drops_stR : ∀ {l : List Int} {k : Bk}, (k.drops l).stamp = k.stamp
  | [], _ => rfl
  | n :: l, k => (drops_stR (l := l) (k := k.drop n)).trans drop_st
theorem bit_kept {v n : Int} (hv : 0 ≤ v ∧ v < 2 ^ 64) (hn : 0 ≤ n) : n ∈ keptV v ↔ bitZ v n = true := by
  unfold keptV zI shN bitZ
  rw [List.mem_map]
  constructor
  · rintro ⟨i, hi, e⟩
    have := (List.mem_filter.mp hi).2
    rw [← e, Int.toNat_natCast]
    exact this
  · intro h
    refine ⟨n.toNat, List.mem_filter.mpr ⟨List.mem_range.mpr ?_, h⟩, by omega⟩
    rcases Nat.lt_or_ge n.toNat 64 with z | z
    · exact z
    · rw [Nat.testBit_lt_two_pow (Nat.lt_of_lt_of_le (by omega : v.toNat < 2 ^ 64) (Nat.pow_le_pow_right (by decide) z))] at h
      cases h
theorem newBk_rb {b p : Int} {n : Nat} : Rb0 (List.replicate n none) (Bk.new b p) ∧ AllN (List.replicate n none) (Bk.new b p) ∧ Roll (List.replicate n none) (Bk.new b p) := by
  have no : ∀ i, ¬ wrC (List.replicate n none) i := fun i z => z (by rw [List.getD_eq_getElem?_getD, List.getElem?_replicate]; split <;> rfl)
  have rep : ∀ (a : Nat) (i : Nat), (List.replicate a (0 : Int)).getD i 0 = 0 := fun a i => by
    rw [List.getD_eq_getElem?_getD, List.getElem?_replicate]
    split <;> rfl
  refine ⟨⟨fun i h => absurd h (no i), fun i j h => absurd h (no i), .nil, (fun n pg h => by cases h), fun a j _ _ => ⟨fun h => absurd h (no _), fun h => ?_⟩, fun a _ => ?_, fun a j _ _ h => absurd h (no _), .inl ⟨rfl, no⟩⟩, fun i h => absurd h (no i), fun i h => absurd h (no i), (fun n pg rp h => by cases h)⟩
  · have h : (j : Int) < (List.replicate b.toNat (0 : Int)).getD a 0 := h
    rw [rep] at h
    omega
  · show (List.replicate b.toNat (0 : Int)).getD a 0 = if (List.replicate b.toNat (0 : Int)).getD a 0 = 0 then 0 else _
    rw [rep, if_pos rfl]
theorem MidR.roll {c : Ct} {k : Bk} {q1 : Pc} {k1 : Bk} {rest : List Row} {l : List Int} (M : MidR c k q1 k1 rest) (h : Rb0 q1.ct (k1.drops l)) : MidR c k q1 (k1.drops l) rest :=
  ⟨h, M.wf.drops, drops_bp.1.trans M.eb, drops_bp.2.trans M.ep, M.len, M.agr, M.cov, M.row, M.srt, by rw [drops_stR]; exact M.low⟩
theorem rebuild {q : Pc} {k : Bk} (w : Wf q k) (hc : Rb0 q.ct k) (hr : Roll q.ct k) (hst : k.stamp < 10 ^ 39) : bookR k.b k.p (rowsQ q.ct) = k := by
  have hl : (q.ct.length : Int) = k.b * k.p := by rw [w.ctl, w.kb, w.kp]
  have hbb := w.bk.b
  have hpp := w.bk.p
  have rep : ∀ i, (List.replicate q.ct.length (none : Option (Int × Int))).getD i none = none := fun i => by
    rw [List.getD_eq_getElem?_getD, List.getElem?_replicate]
    split <;> rfl
  obtain ⟨n1, n2, n3⟩ := newBk_rb (b := k.b) (p := k.p) (n := q.ct.length)
  have M0 : MidR q.ct k { q with ct := List.replicate q.ct.length none, b := k.b, p := k.p, clr := List.replicate k.b.toNat 0 } (Bk.new k.b k.p) (rowsQ q.ct) := by
    refine ⟨n1, Wf.new (m := q.m) (l := q.lasts) hbb hpp rfl rfl (by show List.replicate _ _ = _; congr 1; omega) (fun n => ?_), rfl, rfl, List.length_replicate, fun i h => absurd (rep i) h, fun i hi _ => ?_, fun r hr2 => ?_, rowsQ_srt hc, fun r hr2 => ?_⟩
    · show 0 ≤ (List.replicate k.b.toNat (0 : Int)).getD n 0 ∧ (List.replicate k.b.toNat (0 : Int)).getD n 0 ≤ (q.log.length : Int)
      rw [List.getD_eq_getElem?_getD, List.getElem?_replicate]
      split
      · exact ⟨Int.le_refl _, Int.natCast_nonneg _⟩
      · exact ⟨Int.le_refl _, Int.natCast_nonneg _⟩
    · cases e : rowC q.ct i with
      | none =>
        unfold rowC at e
        cases e2 : q.ct.getD i none with
        | none => exact absurd e2 hi
        | some x => rw [e2] at e; cases e
      | some r => exact ⟨r, rowsQ_mem.mpr ⟨i, e⟩, (rowC_some e).2.2.1⟩
    · obtain ⟨i, hi⟩ := rowsQ_mem.mp hr2
      exact ⟨i, hi, fun z => z (rep i)⟩
    · obtain ⟨i, hi⟩ := rowsQ_mem.mp hr2
      obtain ⟨w1, e1, _⟩ := rowC_some hi
      have := (hc.rng i w1).1
      show 1 ≤ r.st
      omega
  have fin : ∀ {q1 : Pc} {k1 : Bk}, MidR q.ct k q1 k1 [] → Roll q1.ct k1 → k1 = k := fun {q1 k1} M hR => by
    have ec : q1.ct = q.ct := by
      refine List.ext_getElem? fun i => ?_
      by_cases hi : i < q.ct.length
      · have : q1.ct.getD i none = q.ct.getD i none := by
          by_cases z : wrC q1.ct i
          · exact M.agr i z
          · by_cases y : wrC q.ct i
            · obtain ⟨r, hr2, _⟩ := M.cov i y z
              cases hr2
            · rw [Classical.not_not.mp z, Classical.not_not.mp y]
        have hl1 := M.len
        rw [List.getD_eq_getElem?_getD, List.getD_eq_getElem?_getD, List.getElem?_eq_getElem hi, List.getElem?_eq_getElem (by omega)] at this
        rw [List.getElem?_eq_getElem hi, List.getElem?_eq_getElem (by omega)]
        exact congrArg some this
      · have hl1 := M.len
        rw [List.getElem?_eq_none (by omega), List.getElem?_eq_none (by omega)]
    have h1 := M.rb
    rw [ec] at h1 hR
    exact (hc.uniq w M.wf M.eb M.ep hr h1 hR).symm
  have lo : ∀ r ∈ rowsQ q.ct, 1 ≤ r.st := fun r hr2 => M0.low r hr2
  unfold bookR
  rcases newR_split (rowsQ q.ct) 0 with ⟨z1, z2⟩ | ⟨pre, R, post, z1, z2, z3, z4⟩
  · rw [z2]
    have M0' : MidR q.ct k { q with ct := List.replicate q.ct.length none, b := k.b, p := k.p, clr := List.replicate k.b.toNat 0 } (Bk.new k.b k.p) (rowsQ q.ct ++ []) := by rw [List.append_nil]; exact M0
    obtain ⟨q2, M2, _, R2⟩ := foldA (N := 0) hc hl hst M0' fun r hr2 => by have := lo r hr2; omega
    exact fin M2 (R2 n3 z1)
  · rw [z4]
    rw [z1] at M0
    have srt := M0.srt
    rw [List.pairwise_append] at srt
    have srt2 := List.pairwise_cons.mp srt.2.1
    obtain ⟨q2, M2, A2, _⟩ := foldA (N := R.st) hc hl hst M0 fun r hr2 => by
      have := srt.2.2 r hr2 R List.mem_cons_self
      omega
    have A2 := A2 n2
    rw [z1, List.foldl_append, List.foldl_cons]
    generalize pre.foldl (stepR R.st) (Bk.new k.b k.p) = k2 at M2 A2
    obtain ⟨i, m, hi, P⟩ := M2.pl hc hl
    obtain ⟨q3, M3, c3⟩ := M2.step hc hst hi P
    obtain ⟨w1, e1, e2, e3, e4, e5⟩ := rowC_some hi
    have A3 : AllN q3.ct ((k2.at R.st).note R.pg R.nm) := by rw [c3, e2]; exact A2.put P
    obtain ⟨a1, a2, a3, a4⟩ := setC_at P
    have hNew : NewR q3.ct ((k2.at R.st).note R.pg R.nm) R.pg := by
      rw [e2, c3]
      refine ⟨by rw [noteA_wh, if_pos z2.symm], ?_⟩
      rw [Int.toNat_natCast, a2, noteA_st]
      omega
    have hv : vlC q3.ct R.pg.toNat = R.v := by rw [c3, e2, Int.toNat_natCast, a4]
    have hvr : 0 ≤ R.v ∧ R.v < 2 ^ 64 := ⟨P.vr.1, P.vr.2.2 z2⟩
    have es : stepR R.st k2 R = ((k2.at R.st).note R.pg R.nm).drops (cutN ((k2.at R.st).note R.pg R.nm) R.v) := if_pos rfl
    rw [es]
    generalize hk3 : (k2.at R.st).note R.pg R.nm = k3 at M3 A3 hNew
    have hcut : ∀ n, n ∈ cutN k3 R.v ↔ n ∈ heldL k3 ∧ n ∉ keptV R.v := fun n => by
      unfold cutN
      rw [List.mem_filter]
      simp
    obtain ⟨r1, r2⟩ := roll_of M3.rb hNew (l := cutN k3 R.v) (fun n hn => ((heldL_mem).mp ((hcut n).mp hn).1).2) (fun n pg hg hn => by
      have hrn := M3.wf.rng _ (getI_mem hg)
      rw [hv, hcut, bit_kept hvr hrn.1]
      constructor
      · intro z
        cases hb : bitZ R.v n with
        | true => exact absurd hb z.2
        | false => rfl
      · intro z
        exact ⟨heldL_mem.mpr ⟨⟨pg, getI_mem hg⟩, hn⟩, by rw [z]; decide⟩) (fun i hi hg => absurd hg (A3 i hi))
    have M4 := M3.roll r1
    have M4' : MidR q.ct k q3 (k3.drops (cutN k3 R.v)) (post ++ []) := by rw [List.append_nil]; exact M4
    obtain ⟨q5, M5, _, R5⟩ := foldA (N := R.st) hc hl hst M4' fun r hr2 => by
      have := srt2.1 r hr2
      omega
    exact fin M5 (R5 r2 z3)

/-! ### for a law with no store -/
def RbS (s : St) : Prop := Rb0 s.q.ct s.k ∧ Roll s.q.ct s.k

/-! ### coming up: the rows of a chip's pages -/
def rl (r : Row) : List Int := [r.st, r.pg, r.nm, r.v]
def ur (l : List Int) : Row := ⟨l.getD 0 0, l.getD 1 0, l.getD 2 0, l.getD 3 0⟩
structure RowOk (q : Pc) : Prop where
  n : (rowsC q.ct).length < 64
  rng : ∀ i e, q.ct.getD i none = some e → 0 ≤ e.1 ∧ e.1 < 10 ^ 42 ∧ 0 ≤ e.2 ∧ e.2 < 10 ^ 31
  inj : ∀ i j, wrC q.ct i → wrC q.ct j → stC q.ct i = stC q.ct j → i = j
  len : (q.ct.length : Int) = q.b * q.p
theorem rows_inj {c : Ct} (inj : ∀ i j, wrC c i → wrC c j → stC c i = stC c j → i = j) : (rowsC c).Pairwise fun a b => a.st ≠ b.st := by
  unfold rowsC
  refine List.pairwise_filterMap.mpr (List.Pairwise.imp (fun {i j} hij a ha b hb e => ?_) List.nodup_range)
  obtain ⟨w1, e1, _⟩ := rowC_some ha
  obtain ⟨w2, e2, _⟩ := rowC_some hb
  exact hij (inj i j w1 w2 (by rw [← e1, ← e2]; exact e))
theorem rowOk_row {q : Pc} (h : RowOk q) {r : Row} (hr : r ∈ rowsC q.ct) : (0 ≤ r.st ∧ r.st < 10 ^ 41) ∧ (0 ≤ r.pg ∧ r.pg < q.b * q.p) ∧ (0 ≤ r.nm ∧ r.nm < 128) ∧ (0 ≤ r.v ∧ r.v < 10 ^ 31) := by
  unfold rowsC at hr
  obtain ⟨i, hi, e⟩ := List.mem_filterMap.mp hr
  have hi := List.mem_range.mp hi
  have hl := h.len
  obtain ⟨w, e1, e2, e3, e4, e5⟩ := rowC_some e
  have := h.rng i _ e5
  unfold mk at this
  unfold nmC at e3
  dsimp only at this
  omega
theorem rl_bd {q : Pc} (h : RowOk q) (hbp : q.b * q.p ≤ 256) : ∀ e ∈ (rowsC q.ct).map rl, e.length = 4 ∧ TS.Bd (10 ^ 50) e := fun e he => by
  obtain ⟨r, hr, rfl⟩ := List.mem_map.mp he
  refine ⟨rfl, fun m hm => ?_⟩
  have := rowOk_row h hr
  unfold rl at hm
  simp only [List.mem_cons, List.not_mem_nil, or_false] at hm
  rcases hm with rfl | rfl | rfl | rfl <;> omega
theorem RowOk.sorted {q : Pc} (h : RowOk q) (hbp : q.b * q.p ≤ 256) {ls : List (List Int)} (hp : ls.Perm ((rowsC q.ct).map rl)) (hs : ls.Pairwise fun a b => TS.code (10 ^ 50) a ≤ TS.code (10 ^ 50) b) : ls = (rowsQ q.ct).map rl := by
  have bd : ∀ e ∈ ls, (∃ r, e = rl r) ∧ TS.Bd (10 ^ 50) e := fun e he => by
    have hm := hp.mem_iff.mp he
    obtain ⟨r, hr, rfl⟩ := List.mem_map.mp hm
    exact ⟨⟨r, rfl⟩, (rl_bd h hbp _ hm).2⟩
  have e1 : (ls.map ur).map rl = ls := by
    rw [List.map_map]
    refine (List.map_congr_left fun e he => ?_).trans (List.map_id ls)
    obtain ⟨⟨r, rfl⟩, _⟩ := bd e he
    rfl
  have p1 : (ls.map ur).Perm (rowsQ q.ct) := by
    have := hp.map ur
    rw [List.map_map, show ur ∘ rl = id from rfl, List.map_id] at this
    exact this.trans (List.mergeSort_perm _ _).symm
  have s1 : (ls.map ur).Pairwise fun a b => a.st ≤ b.st := by
    refine List.pairwise_map.mpr (List.Pairwise.imp_of_mem (fun {a b} ha hb z => ?_) hs)
    obtain ⟨⟨r, rfl⟩, b1⟩ := bd a ha
    obtain ⟨⟨r', rfl⟩, b2⟩ := bd b hb
    show r.st ≤ r'.st
    have := code_cons (B := 10 ^ 50) (d := r.st) (e := r'.st) (r := [r.pg, r.nm, r.v]) (q := [r'.pg, r'.nm, r'.v]) rfl b1 b2 z
    omega
  have ne := rows_inj h.inj
  have n1 : (ls.map ur).Pairwise fun a b => a.st ≠ b.st := (List.Perm.pairwise_iff (fun {a b} z y => z y.symm) (p1.trans (List.mergeSort_perm _ _))).mpr ne
  have n2 : (rowsQ q.ct).Pairwise fun a b => a.st ≠ b.st := (List.Perm.pairwise_iff (fun {a b} z y => z y.symm) (List.mergeSort_perm _ _)).mpr ne
  have s2 : (rowsQ q.ct).Pairwise fun a b => decide (a.st ≤ b.st) = true := List.pairwise_mergeSort (le := fun a b : Row => decide (a.st ≤ b.st)) (fun a b c z y => decide_eq_true (Int.le_trans (of_decide_eq_true z) (of_decide_eq_true y))) (fun a b => by
    rcases Int.le_total a.st b.st with z | z
    · rw [decide_eq_true z]; rfl
    · rw [decide_eq_true z, Bool.or_true]) _
  rw [← e1]
  congr 1
  refine List.Perm.eq_of_pairwise (le := fun a b : Row => a.st < b.st) (fun a b _ _ h1 h2 => by omega) ((s1.and n1).imp fun {a b} z => by omega) ((s2.and n2).imp fun {a b} z => ?_) p1
  have := of_decide_eq_true z.1
  have := z.2
  omega
theorem rowsC_take {c : Ct} {i : Nat} : (List.range (i + 1)).filterMap (rowC c) = (List.range i).filterMap (rowC c) ++ (match rowC c i with
    | none => []
    | some r => [r]) := by
  rw [List.range_succ, List.filterMap_append]
  congr 1
  cases h : rowC c i with
  | none => rw [List.filterMap_cons_none h]; rfl
  | some r => rw [List.filterMap_cons_some h]; rfl
local macro_rules | `(tactic| walk_at "u") => `(tactic| ((with_reducible refine' x_appO ?ho ?_ ?hl); (case ho => walk_at "hp"); (try (case hl => walk_at "side")); intro H1 hO hI; (try dsimp only)))
def spRows (T : Txt K mg) : Sp := fun vs H Q E => ∃ (r : Addr) (F : CF) (q : Pc), vs = [.ref r] ∧ ChipP T.C_Chip H r F q ∧ RowOk q ∧ (q.dark = true → ∀ H', Same H H' → E (.ref T.C_PowerGone) none H') ∧ (q.dark = false → ∀ p ys H', Same H H' → H p = none → H' p = some (.lst ys) → TupL H' ys ((rowsQ q.ct).map rl) → Q (.ref p) H')
theorem ok_rows_by_stamp (T : Txt K mg) : FO P w K mg base 5 T.a_rows_by_stamp T.fd_rows_by_stamp ["chip"] (spRows T) := by
  have sc := sc_rows_by_stamp
  refine T.F_rows_by_stamp.okX sc (fun vs H Q E h => ?_) (fun cdv A outer s H vs Q E hr h => ?_)
  · obtain ⟨_, _, _, rfl, _⟩ := h
    rfl
  obtain ⟨r, F, q, rfl, hC, hR, q1, q2⟩ := h
  refine ⟨_, (pss_cons (ps_set (i := 1) sc.nd rfl (by first | exact Or.inl rfl | exact Or.inr rfl) (pe_lst pa_nil))
      (pss_cons (ps_for (passes_of rfl) rfl (pi_range1 (by rfl) T.b_range (pa_cons (pe_op op_uMul (pe_fld (pv 0) rfl) (pe_fld (pv 0) rfl)) pa_nil)) (pg_name (i := 2) sc.nd rfl (by first | exact Or.inl rfl | exact Or.inr rfl)) (pss_cons (ps_set (i := 3) sc.nd rfl (by first | exact Or.inl rfl | exact Or.inr rfl) (pe_methD (k := 4) (pv 0) (hr.mono (by decide)) (passAt (takes_of rfl rfl rfl rfl)) (pa_cons (pv 2) pa_nil)))
      (pss_one (ps_if (pt_cmpR op_uIsNot (pv 3) pe_non (nomark _)) (pss_one (ps_expr (pe_bm PySem.F.plainAttrs_list PySem.F.slot_list_append PySem.F.type_list_append mt_append (pv 1) (pa_cons (pe_tup (pa_cons (pe_callS (ok_stamp_of T) (hr.mono (by decide)) (by rfl) T.g_stamp_of T.k_stamp_of T.bd_stamp_of (passAt (takes_of rfl rfl rfl rfl)) (pa_cons (pe_ix ix_seq (pv 3) pe_int (fun _ _ => rfl)) pa_nil)) (pa_cons (pv 2) (pa_cons (pe_callS (ok_name_of T) (hr.mono (by decide)) (by rfl) T.g_name_of T.k_name_of T.bd_name_of (passAt (takes_of rfl rfl rfl rfl)) (pa_cons (pe_ix ix_seq (pv 3) pe_int (fun _ _ => rfl)) pa_nil)) (pa_cons (pe_ix ix_seq (pv 3) pe_int (fun _ _ => rfl)) pa_nil))))) pa_nil)))) pss_nil))))
      (pss_one (ps_ret (pe_callB (cr_sortT (d := 4) (B := 10 ^ 50) (by decide)) (by rfl) T.b_sorted bt_sorted (pa_cons (pv 1) pa_nil)))))), ?_⟩
  obtain ⟨st, hC, hst⟩ := hC
  have ho := hC.obj
  unfold chipF Pc.toC at ho
  dsimp only at ho
  have hsz := hC.sz
  have hb : 2 ≤ q.b ∧ q.b ≤ 16 := hsz.b
  have hp : 1 ≤ q.p ∧ q.p ≤ 16 := hsz.p
  have hbp : q.b * q.p ≤ 16 * 16 := Int.mul_le_mul hb.2 hp.2 (by omega) (by decide)
  have hb0 : 0 ≤ q.b * q.p := Int.mul_nonneg (by omega) (by omega)
  have h2bp : 2 * 1 ≤ q.b * q.p := Int.mul_le_mul hb.1 hp.1 (by decide) (by omega)
  have hlen := hR.len
  have hll : ∀ i, ((List.range i).filterMap (rowC q.ct)).length ≤ i := fun i => Nat.le_trans (List.length_filterMap_le _ _) (by rw [List.length_range]; exact Nat.le_refl _)
  walk_at "begin"
  walk_at "go"
  rename_i p H1 hp1 hs1 hn1
  refine x_seq ?_
  walk_at "go"
  refine x_frR1 (j := q.b * q.p) (by omega) (fun i σ H' => ∃ (v2 v3 : Option V) (ys : List V), σ = [some (.ref r), some (.ref p), v2, v3] ∧ Same H H' ∧ H' p = some (.lst ys) ∧ TupL H' ys (((List.range i).filterMap (rowC q.ct)).map rl) ∧ (0 < i → q.dark = false)) ⟨_, _, [], rfl, hs1, hn1, TupL.nil, fun z => absurd z (Nat.lt_irrefl 0)⟩ ?_ ?_
  · intro i σ H2 hi ⟨v2, v3, ys, hσ, hs2, hn2, ht2, hdk⟩
    subst hσ
    have hi2 : (i : Int) < q.b * q.p := by omega
    have hC2 := hC.mono hs2
    have hst2 := hst.mono (TupS.of hs2)
    walk_at "go"
    refine x_mRead hC2 ?_
    walk_at "go"
    refine ⟨r, F, _, _, some (0 + (i : Int)), rfl, hC2, .int _, (fun z => by simp [inB] at z; have : (q.toC st).b * (q.toC st).p = q.b * q.p := rfl; omega), (fun _ hd => q1 hd H2 hs2), fun _ hd => ?_⟩
    have ei : (0 + (i : Int)).toNat = i := by omega
    have ev : (q.toC st).stuff.getD ((some (0 + (i : Int))).getD 0).toNat .non = st.getD i .non := by show st.getD (0 + (i : Int)).toNat .non = _; rw [ei]
    rw [ev]
    have hil : i < st.length := by have := hst.1; omega
    rcases hst2.2 i hil with ⟨c1, c2⟩ | ⟨a, m, x, c1, c2, c3⟩
    · rw [c2]
      walk_at "go"
      have er : rowC q.ct i = none := by unfold rowC; rw [c1]; rfl
      refine ⟨_, _, ys, rfl, hs2, hn2, ?_, fun _ => hd⟩
      rw [rowsC_take, er, List.append_nil]
      exact ht2
    · rw [c2]
      have hm := hR.rng i (m, x) c1
      dsimp only at hm
      have er : rowC q.ct i = some ⟨m / 128, (i : Int), m % 128, x⟩ := by unfold rowC; rw [c1]; rfl
      have hyl : ys.length < sizeLine := Nat.lt_of_le_of_lt (show _ ≤ 300 by have := ht2.1; rw [List.length_map] at this; have := hll i; omega) (by decide)
      walk_at "go"
      rw [if_neg (by rw [show decide (V.ref a = V.non) = false from decide_eq_false fun z => by cases z]; decide)]
      walk_at "go"
      rename_i t1 H3 ht1 hs3 hn3 H4 hO hI
      refine ⟨_, _, _, rfl, Off.same1 (hs2.trans hs3) hO hp1, hI, ?_, fun _ => hd⟩
      rw [rowsC_take, er, List.map_append]
      have tt : TupS H2 H4 := (TupS.of hs3).trans (hO.tupsL (hs3 _ _ hn2))
      have ht := hO.at hn3 (fun z => by rw [List.mem_singleton.mp z, hn2] at ht1; cases ht1)
      rw [Int.zero_add] at ht
      exact (ht2.mono tt).snoc ⟨t1, rfl, ht⟩
  · intro σ H2 ⟨v2, v3, ys, hσ, hs2, hn2, ht2, hdk⟩
    subst hσ
    have eN : (q.b * q.p).toNat = q.ct.length := by omega
    rw [eN] at ht2
    walk_at "go"
    refine x_sortT (SqL.of hn2) ht2 (by rw [List.length_map]; exact hR.n) (rl_bd hR (by omega)) fun p2 ys2 ls H3 hp3 hs3 hn3 ht3 hperm hsrt => ?_
    rw [hR.sorted (by omega) hperm hsrt] at ht3
    exact q2 (hdk (by omega)) p2 ys2 H3 (hs2.trans hs3) (same_none hs2 hp3) hn3 ht3
theorem x_rows {T : Txt K mg} {H : Hp} {Q : VK} {E : XK} {r : Addr} {F : CF} {q : Pc} (hC : ChipP T.C_Chip H r F q) (hR : RowOk q) (q1 : q.dark = true → ∀ H', Same H H' → E (.ref T.C_PowerGone) none H') (q2 : q.dark = false → ∀ p ys H', Same H H' → H p = none → H' p = some (.lst ys) → TupL H' ys ((rowsQ q.ct).map rl) → Q (.ref p) H') : spRows T [.ref r] H Q E := ⟨r, F, q, rfl, hC, hR, q1, q2⟩
def spRollSt (K : PySem.W.Frag) : Sp := fun vs H Q _ => ∃ (a : Addr) (ys : List V) (rows : List Row), vs = [.ref a] ∧ SqL K H a ys ∧ TupL H ys (rows.map rl) ∧ Q (.int (newR 0 rows)) H
theorem newR_take {rows : List Row} {i : Nat} {r : Row} (h : rows[i]? = some r) : newR 0 (rows.take (i + 1)) = if r.nm = 64 then r.st else newR 0 (rows.take i) := by
  rw [List.take_add_one, h]
  unfold newR
  rw [List.foldl_append]
  rfl
theorem rows_get {H : Hp} {ys : List V} {rows : List Row} (h : TupL H ys (rows.map rl)) {i : Nat} {y : V} (hy : ys[i]? = some y) : ∃ (r : Row) (t : Addr), rows[i]? = some r ∧ y = .ref t ∧ H t = some (.tup [.int r.st, .int r.pg, .int r.nm, .int r.v]) := by
  obtain ⟨e, t, h1, h2, h3⟩ := h.get hy
  rw [List.getElem?_map] at h1
  cases e2 : rows[i]? with
  | none => rw [e2] at h1; cases h1
  | some r =>
    rw [e2] at h1
    cases h1
    exact ⟨r, t, rfl, h2, h3⟩
theorem ok_stamp_of_roll (T : Txt K mg) : FO P w K mg base 1 T.a_stamp_of_roll T.fd_stamp_of_roll ["rows"] (spRollSt K) := by
  have sc := sc_stamp_of_roll
  refine T.F_stamp_of_roll.okX sc (fun vs H Q E h => ?_) (fun cdv A outer s H vs Q E hr h => ?_)
  · obtain ⟨_, _, _, rfl, _⟩ := h
    rfl
  obtain ⟨a, ys, rows, rfl, hS, hT, q⟩ := h
  refine ⟨_, (pss_cons (ps_set (i := 1) sc.nd rfl (by first | exact Or.inl rfl | exact Or.inr rfl) pe_int)
      (pss_cons (ps_for (passes_of rfl) rfl (pi_list (pv 0)) (pg_tup (by rfl) (pgs_cons (pg_name (i := 2) sc.nd rfl (by first | exact Or.inl rfl | exact Or.inr rfl)) (pgs_cons (pg_name (i := 3) sc.nd rfl (by first | exact Or.inl rfl | exact Or.inr rfl)) (pgs_cons (pg_name (i := 4) sc.nd rfl (by first | exact Or.inl rfl | exact Or.inr rfl)) (pgs_cons (pg_name (i := 5) sc.nd rfl (by first | exact Or.inl rfl | exact Or.inr rfl)) pgs_nil))))) (pss_one (ps_if (pt_cmpR (op_uEq hr.units) (pv 4) (pe_glob rfl T.g_ROLL T.r_ROLL) (nomark _)) (pss_one (ps_set (i := 1) sc.nd rfl (by first | exact Or.inl rfl | exact Or.inr rfl) (pv 2))) pss_nil)))
      (pss_one (ps_ret (pv 1))))), ?_⟩
  have hrl : ys.length = rows.length := by have := hT.1; rw [List.length_map] at this; exact this
  walk_at "begin"
  walk_at "go"
  refine x_seq ?_
  walk_at "go"
  refine x_frL hS (fun i σ H' => H' = H ∧ ∃ (v2 v3 v4 v5 : Option V), σ = [some (.ref a), some (.int (newR 0 (rows.take i))), v2, v3, v4, v5]) ⟨rfl, _, _, _, _, rfl⟩ (fun i σ H' _ h => by rw [h.1]; exact hS) ?_ ?_
  · intro i y σ H' hy ⟨hH, v2, v3, v4, v5, hσ⟩
    subst hσ hH
    obtain ⟨r, t, e1, rfl, ht⟩ := rows_get hT hy
    rw [newR_take e1]
    refine x_gtup4 (SqT.of ht) ?_
    dsimp only [List.set]
    walk_at "go"
    by_cases h64 : r.nm = 64
    · rw [if_pos (decide_eq_true h64), if_pos h64]
      walk_at "go"
      exact ⟨rfl, _, _, _, _, rfl⟩
    · rw [if_neg (by rw [decide_eq_false h64]; decide), if_neg h64]
      walk_at "go"
      exact ⟨rfl, _, _, _, _, rfl⟩
  · intro σ H' ⟨hH, v2, v3, v4, v5, hσ⟩
    subst hσ hH
    rw [hrl, List.take_length]
    walk_at "go"
    exact q
/-! ### the book of a chip -/
def spStartAt (T : Txt K mg) : Sp := fun vs H Q _ => ∃ (r : Addr) (F : BF) (k : Bk) (x : Int), vs = [.ref r, .int x] ∧ BookAt T.C_Book H r F k ∧ ∀ H', Off (F.all r) H H' → BookAt T.C_Book H' r F (k.at x) → Q .non H'
theorem ok_Book_start_at (T : Txt K mg) : FO P w K mg base 1 T.a_Book_start_at T.fd_Book_start_at ["self", "stamp"] (spStartAt T) := by
  have sc := sc_Book_start_at
  refine T.F_Book_start_at.okX sc (fun vs H Q E h => ?_) (fun cdv A outer s H vs Q E hr h => ?_)
  · obtain ⟨_, _, _, _, rfl, _⟩ := h
    rfl
  obtain ⟨r, F, k, x, rfl, hB, q⟩ := h
  refine ⟨_, (pss_one (ps_fld (pv 0) (pv 1) rfl)), ?_⟩
  have ho := hB.obj
  walk_at "begin"
  walk_at "go"
  refine x_sfO (fs' := bookF F (k.at x)) ho rfl (fun H1 hO hI => ?_) T.cl_Book T.na_Book_stamp (Nat.le_of_ble_eq_true rfl)
  walk_at "go"
  obtain ⟨⟨n1, n2, n3, n4, n5⟩, _⟩ := hB.ne
  exact q H1 (hO.sub fun b hb => by rw [List.mem_singleton.mp hb]; simp [BF.all]) ⟨hI, hO.at hB.wh (nin_of n1.symm), hO.at hB.nm (nin_of n2.symm), hO.at hB.lv (nin_of n3.symm), hO.at hB.fl (nin_of n4.symm), hO.at hB.bn (nin_of n5.symm), hB.nd⟩
theorem x_mStart {T : Txt K mg} {H : Hp} {Q : VK} {E : XK} {σ : L2.St} {r : Addr} {F : BF} {k : Bk} {t : TA} (hB : BookAt T.C_Book H r F k) (h : t σ H fun vs H2 => spStartAt T (.ref r :: vs) H2 Q E) : mtK P w K mg base (L2.CX P w) 1 "start_at" E σ t Q (.ref r) H :=
  x_mtK hB.obj ⟨⟨_, _, _, T.cl_Book, T.m_Book_start_at, ok_Book_start_at T, T.bd_Book_start_at⟩⟩ rfl h
structure RwOk (b p : Int) (rows : List Row) : Prop where
  n : rows.length < 64
  r : ∀ r ∈ rows, (0 ≤ r.st ∧ r.st < 10 ^ 39) ∧ (0 ≤ r.pg ∧ r.pg < b * p) ∧ (r.st = newR 0 rows → 0 ≤ r.v ∧ r.v < 2 ^ 64)
theorem drops_ok : ∀ {l : List Int} {k : Bk}, BkOk k → BkOk (k.drops l) ∧ (k.drops l).wh.length ≤ k.wh.length
  | [], k, h => ⟨h, Nat.le_refl _⟩
  | n :: l, k, h => by
    obtain ⟨a, b⟩ := drops_ok (l := l) (h.drop n)
    exact ⟨a, Nat.le_trans b drop_whl⟩
theorem at_ok {k : Bk} {x : Int} (h : BkOk k) (h0 : 0 ≤ x ∧ x < 10 ^ 40) : BkOk (k.at x) := ⟨h.b, h.p, h.nm, h.live, h.fil, h.born, h.wh, h.whl, h0⟩
theorem note_ok {b p : Int} {k : Bk} {r : Row} {i : Nat} (h : BkOk k ∧ k.wh.length ≤ i ∧ k.b = b ∧ k.p = p) (hi : i < 64) (hr : (0 ≤ r.st ∧ r.st < 10 ^ 39) ∧ (0 ≤ r.pg ∧ r.pg < b * p)) : BkOk ((k.at r.st).note r.pg r.nm) ∧ ((k.at r.st).note r.pg r.nm).wh.length ≤ i + 1 ∧ ((k.at r.st).note r.pg r.nm).b = b ∧ ((k.at r.st).note r.pg r.nm).p = p := by
  obtain ⟨h1, h2, h3, h4⟩ := h
  have hw : (k.at r.st).wh.length = k.wh.length := rfl
  refine ⟨(at_ok h1 ⟨hr.1.1, by omega⟩).note hr.2.1 (by show r.pg < k.b * k.p; rw [h3, h4]; exact hr.2.2) (by omega) (by show r.st + 1 < _; omega), ?_, noteA_bp.1.trans h3, noteA_bp.2.trans h4⟩
  have := note_whl (k := k.at r.st) (pg := r.pg) (n := r.nm)
  omega
theorem step_ok {b p N : Int} {k : Bk} {r : Row} {i : Nat} (h : BkOk k ∧ k.wh.length ≤ i ∧ k.b = b ∧ k.p = p) (hi : i < 64) (hr : (0 ≤ r.st ∧ r.st < 10 ^ 39) ∧ (0 ≤ r.pg ∧ r.pg < b * p)) : BkOk (stepR N k r) ∧ (stepR N k r).wh.length ≤ i + 1 ∧ (stepR N k r).b = b ∧ (stepR N k r).p = p := by
  have n := note_ok h hi hr
  unfold stepR
  split
  · obtain ⟨a1, a2⟩ := drops_ok (l := cutN ((k.at r.st).note r.pg r.nm) r.v) n.1
    exact ⟨a1, by omega, drops_bp.1.trans n.2.2.1, drops_bp.2.trans n.2.2.2⟩
  · exact n
theorem fold_take {N : Int} {rows : List Row} {k : Bk} {i : Nat} {r : Row} (h : rows[i]? = some r) : (rows.take (i + 1)).foldl (stepR N) k = stepR N ((rows.take i).foldl (stepR N) k) r := by
  rw [List.take_add_one, h, List.foldl_append]
  rfl
theorem drops_snoc {l : List Int} {n : Int} : ∀ {k : Bk}, k.drops (l ++ [n]) = (k.drops l).drop n := fun {k} => by
  unfold Bk.drops
  rw [List.foldl_append]
  rfl
def spBookOf (T : Txt K mg) : Sp := fun vs H Q E => ∃ (r : Addr) (F : CF) (q : Pc), vs = [.ref r] ∧ ChipP T.C_Chip H r F q ∧ RowOk q ∧ RwOk q.b q.p (rowsQ q.ct) ∧ (q.dark = true → ∀ H', Same H H' → E (.ref T.C_PowerGone) none H') ∧
  (q.dark = false → ∀ rb fb H', Same H H' → (∀ a ∈ BF.all fb rb, H a = none) → BookAt T.C_Book H' rb fb (bookR q.b q.p (rowsQ q.ct)) → Q (.ref rb) H')
theorem ok_book_of (T : Txt K mg) : FO P w K mg base 6 T.a_book_of T.fd_book_of ["chip"] (spBookOf T) := by
  have sc := sc_book_of
  refine T.F_book_of.okX sc (fun vs H Q E h => ?_) (fun cdv A outer s H vs Q E hr h => ?_)
  · obtain ⟨_, _, _, rfl, _⟩ := h
    rfl
  obtain ⟨r, F, q, rfl, hC, hR, hW, q1, q2⟩ := h
  refine ⟨_, (pss_cons (ps_set (i := 1) sc.nd rfl (by first | exact Or.inl rfl | exact Or.inr rfl) (pe_mkS T.mk_Book (ok_Book_init T) (hr.mono (by decide)) (by rfl) T.g_Book T.bd_Book_init .nil (passAt (takes_of rfl rfl rfl rfl)) (pa_cons (pe_fld (pv 0) rfl) (pa_cons (pe_fld (pv 0) rfl) pa_nil))))
      (pss_cons (ps_set (i := 2) sc.nd rfl (by first | exact Or.inl rfl | exact Or.inr rfl) (pe_callS (ok_rows_by_stamp T) (hr.mono (by decide)) (by rfl) T.g_rows_by_stamp T.k_rows_by_stamp T.bd_rows_by_stamp (passAt (takes_of rfl rfl rfl rfl)) (pa_cons (pv 0) pa_nil)))
      (pss_cons (ps_set (i := 3) sc.nd rfl (by first | exact Or.inl rfl | exact Or.inr rfl) (pe_callS (ok_stamp_of_roll T) (hr.mono (by decide)) (by rfl) T.g_stamp_of_roll T.k_stamp_of_roll T.bd_stamp_of_roll (passAt (takes_of rfl rfl rfl rfl)) (pa_cons (pv 2) pa_nil)))
      (pss_cons (ps_for (passes_of rfl) rfl (pi_list (pv 2)) (pg_tup (by rfl) (pgs_cons (pg_name (i := 4) sc.nd rfl (by first | exact Or.inl rfl | exact Or.inr rfl)) (pgs_cons (pg_name (i := 5) sc.nd rfl (by first | exact Or.inl rfl | exact Or.inr rfl)) (pgs_cons (pg_name (i := 6) sc.nd rfl (by first | exact Or.inl rfl | exact Or.inr rfl)) (pgs_cons (pg_name (i := 7) sc.nd rfl (by first | exact Or.inl rfl | exact Or.inr rfl)) pgs_nil))))) (pss_cons (ps_expr (pe_methD (k := 1) (pv 1) (hr.mono (by decide)) (passAt (takes_of rfl rfl rfl rfl)) (pa_cons (pv 4) pa_nil)))
      (pss_cons (ps_expr (pe_methD (k := 2) (pv 1) (hr.mono (by decide)) (passAt (takes_of rfl rfl rfl rfl)) (pa_cons (pv 5) (pa_cons (pv 6) pa_nil))))
      (pss_one (ps_if (pt_cmpR (op_uEq hr.units) (pv 4) (pv 3) (nomark _)) (pss_cons (ps_set (i := 8) sc.nd rfl (by first | exact Or.inl rfl | exact Or.inr rfl) (pe_callS (ok_sheets_of T) (hr.mono (by decide)) (by rfl) T.g_sheets_of T.k_sheets_of T.bd_sheets_of (passAt (takes_of rfl rfl rfl rfl)) (pa_cons (pv 7) pa_nil)))
      (pss_one (ps_for (passes_of rfl) rfl (pi_list (pe_methD0 (k := 2) (pv 1) (hr.mono (by decide)) (passAt (takes_of rfl rfl rfl rfl)))) (pg_name (i := 9) sc.nd rfl (by first | exact Or.inl rfl | exact Or.inr rfl)) (pss_one (ps_if (pt_cmpR op_uNotIn (pv 9) (pv 8) (by rfl)) (pss_one (ps_expr (pe_methD (k := 1) (pv 1) (hr.mono (by decide)) (passAt (takes_of rfl rfl rfl rfl)) (pa_cons (pv 9) pa_nil)))) pss_nil))))) pss_nil)))))
      (pss_one (ps_ret (pv 1))))))), ?_⟩
  obtain ⟨st, hC0, hst⟩ := hC
  have hC : ChipP T.C_Chip H r F q := ⟨st, hC0, hst⟩
  have ho := hC0.obj
  unfold chipF Pc.toC at ho
  dsimp only at ho
  have hsz := hC0.sz
  have hb : 2 ≤ q.b ∧ q.b ≤ 16 := hsz.b
  have hp : 1 ≤ q.p ∧ q.p ≤ 16 := hsz.p
  walk_at "begin"
  walk_at "go"
  rename_i x dxb H1 hx hdx hne hs1 hn1 hdd
  refine ⟨x, dxb, q.b, q.p, rfl, hn1, hb, hp, fun fb H2 hO2 hF2 hB2 => ⟨rfl, ?_⟩⟩
  have s02 : Same H H2 := Off.same1 hs1 hO2 hx
  have nB : ∀ a ∈ BF.all fb x, H a = none := fun a ha => by
    by_cases e : a = x
    · rw [e]; exact hx
    · exact same_none hs1 (hF2 a ha e)
  clear hO2 hn1 hdd hs1
  walk_at "go"
  refine x_rows (hC.mono s02) hR (fun hd H3 hs3 => q1 hd H3 (s02.trans hs3)) fun hd p ys H3 hs3 hp3 hn3 hT3 => ?_
  have s03 := s02.trans hs3
  have hB3 := hB2.mono hs3
  walk_at "go"
  refine ⟨p, ys, _, rfl, SqL.of hn3, hT3, ?_⟩
  walk_at "go"
  refine x_seq ?_
  walk_at "go"
  have hpB : p ∉ BF.all fb x := hB2.fresh hp3
  have hyl : ys.length = (rowsQ q.ct).length := by have := hT3.1; rw [List.length_map] at this; exact this
  refine x_frL (SqL.of hn3) (fun i σ H' => ∃ (v4 v5 v6 v7 v8 v9 : Option V), σ = [some (.ref r), some (.ref x), some (.ref p), some (.int (newR 0 (rowsQ q.ct))), v4, v5, v6, v7, v8, v9] ∧ Off (BF.all fb x) H3 H' ∧ BookAt T.C_Book H' x fb (((rowsQ q.ct).take i).foldl (stepR (newR 0 (rowsQ q.ct))) (Bk.new q.b q.p)) ∧
      (BkOk (((rowsQ q.ct).take i).foldl (stepR (newR 0 (rowsQ q.ct))) (Bk.new q.b q.p)) ∧ (((rowsQ q.ct).take i).foldl (stepR (newR 0 (rowsQ q.ct))) (Bk.new q.b q.p)).wh.length ≤ i ∧ (((rowsQ q.ct).take i).foldl (stepR (newR 0 (rowsQ q.ct))) (Bk.new q.b q.p)).b = q.b ∧ (((rowsQ q.ct).take i).foldl (stepR (newR 0 (rowsQ q.ct))) (Bk.new q.b q.p)).p = q.p))
    ⟨_, _, _, _, _, _, rfl, Off.refl, hB3, Bk.new_ok hb hp, Nat.le_refl 0, rfl, rfl⟩ (fun i σ H' _ h => by obtain ⟨_, _, _, _, _, _, _, hO, _⟩ := h; exact SqL.of (hO.at hn3 hpB)) ?_ ?_
  · intro i y σ H4 hy ⟨v4, v5, v6, v7, v8, v9, hσ, hO4, hB4, hk4⟩
    subst hσ
    have tt4 : TupS H3 H4 := tups_of (fun a ha => hB3.there a ha) hO4
    obtain ⟨rw, t, e1, rfl, ht⟩ := rows_get hT3 hy
    have ht4 := tt4 _ _ ht
    have hil := (List.getElem?_eq_some_iff.mp e1).1
    have hn64 := hW.n
    obtain ⟨w1, w2, w3⟩ := hW.r rw (List.mem_of_getElem? e1)
    have hnext := step_ok (N := newR 0 (rowsQ q.ct)) hk4 (by omega) ⟨w1, w2⟩
    have hnote := note_ok hk4 (by omega) ⟨w1, w2⟩
    rw [fold_take e1]
    generalize ((rowsQ q.ct).take i).foldl (stepR (newR 0 (rowsQ q.ct))) (Bk.new q.b q.p) = k at hB4 hk4 hnext hnote ⊢
    generalize hN : newR 0 (rowsQ q.ct) = N at hnext w3 ⊢
    refine x_gtup4 (SqT.of ht4) ?_
    dsimp only [List.set]
    walk_at "go"
    refine x_mStart hB4 ?_
    walk_at "go"
    refine ⟨x, fb, k, rw.st, rfl, hB4, fun H5 hO5 hB5 => ?_⟩
    have o5 := hO4.trans hO5
    clear hO5
    walk_at "go"
    refine x_mNote hB5 ?_
    walk_at "go"
    refine ⟨x, fb, _, rw.pg, rw.nm, rfl, hB5, at_ok hk4.1 ⟨w1.1, by omega⟩, w2.1, by show rw.pg < k.b * k.p; rw [hk4.2.2.1, hk4.2.2.2]; exact w2.2, fun H6 hO6 hB6 => ?_⟩
    have o6 := o5.trans hO6
    clear hO6 o5 hO4
    generalize hk2 : (k.at rw.st).note rw.pg rw.nm = k2 at hB6 hnote
    walk_at "go"
    have es : stepR N k rw = if rw.st = N then k2.drops (cutN k2 rw.v) else k2 := by unfold stepR; rw [hk2]
    rw [es] at hnext ⊢
    by_cases hz : rw.st = N
    · rw [if_pos (decide_eq_true hz), if_pos hz]
      rw [if_pos hz] at hnext
      have hv := w3 hz
      have o6' := o6
      clear o6
      walk_at "go"
      refine ⟨rw.v.toNat, by rw [Int.toNat_of_nonneg hv.1], by omega, fun p7 H7 hs7 hp7 hn7 => ?_⟩
      have hB7 := hB6.mono hs7
      walk_at "go"
      refine x_mBHeld hB7 hnote.1 fun p8 H8 hs8 hp8 hn8 => ?_
      have hB8 := hB7.mono hs8
      have n7 : p7 ∉ BF.all fb x := hB6.fresh hp7
      have n8 : p8 ∉ BF.all fb x := hB7.fresh hp8
      have o8 := o6'.trans (Off.of (hs7.trans hs8))
      have hn7' := hs8 _ _ hn7
      clear hs7 hs8 hn7
      refine x_frL (SqL.of hn8) (fun j σ H' => ∃ (v9 : Option V), σ = [some (.ref r), some (.ref x), some (.ref p), some (.int N), some (.int rw.st), some (.int rw.pg), some (.int rw.nm), some (.int rw.v), some (.ref p7), v9] ∧ Off (BF.all fb x) H8 H' ∧ BookAt T.C_Book H' x fb (k2.drops (((heldL k2).take j).filter fun n => !decide (n ∈ keptV rw.v))))
        ⟨_, rfl, Off.refl, hB8⟩ (fun j σ H' _ h => by obtain ⟨_, _, hO, _⟩ := h; exact SqL.of (hO.at hn8 n8)) ?_ ?_
      · intro j y σ H9 hy9 ⟨v9, hσ, hO9, hB9⟩
        subst hσ
        obtain ⟨n, hn, rfl⟩ : ∃ n, (heldL k2)[j]? = some n ∧ y = .int n := by
          rw [List.getElem?_map] at hy9
          cases e : (heldL k2)[j]? with
          | none => rw [e] at hy9; cases hy9
          | some n => rw [e] at hy9; cases hy9; exact ⟨n, rfl, rfl⟩
        rw [List.take_add_one, hn, List.filter_append]
        have hkp : H9 p7 = some (.lst ((keptV rw.v).map V.int)) := hO9.at hn7' n7
        have hO9' := hO9
        clear hO9
        walk_at "go"
        by_cases hkn : n ∈ keptV rw.v
        · rw [if_pos (decide_eq_true hkn)]
          have e0 : (some n).toList.filter (fun n => !decide (n ∈ keptV rw.v)) = [] := by simp [hkn]
          rw [e0, List.append_nil]
          walk_at "go"
          exact ⟨_, rfl, hO9', hB9⟩
        · rw [if_neg (by rw [decide_eq_false hkn]; decide)]
          have e0 : (some n).toList.filter (fun n => !decide (n ∈ keptV rw.v)) = [n] := by simp [hkn]
          rw [e0, drops_snoc]
          walk_at "go"
          refine x_mForget hB9 ?_
          walk_at "go"
          refine ⟨x, fb, _, n, rfl, hB9, (drops_ok hnote.1).1, fun H10 hO10 hB10 => ?_⟩
          have o10 := hO9'.trans hO10
          clear hO9' hO10
          walk_at "go"
          exact ⟨_, rfl, o10, hB10⟩
      · intro σ H9 ⟨v9, hσ, hO9, hB9⟩
        subst hσ
        rw [List.length_map, List.take_length] at hB9
        exact ⟨_, _, _, _, _, _, rfl, o8.trans hO9, hB9, hnext⟩
    · rw [if_neg (by rw [decide_eq_false hz]; decide), if_neg hz]
      rw [if_neg hz] at hnext
      walk_at "go"
      exact ⟨_, _, _, _, _, _, rfl, o6, hB6, hnext⟩
  · intro σ H4 ⟨v4, v5, v6, v7, v8, v9, hσ, hO4, hB4, hk4⟩
    subst hσ
    rw [hyl, List.take_length] at hB4
    have s04 : Same H H4 := fun a o e => hO4 _ _ (fun m => by rw [nB a m] at e; cases e) (s03 _ _ e)
    clear hO4
    walk_at "go"
    exact q2 hd x fb H4 s04 nB hB4
theorem rb_ok {s : St} (hw : Wf s.q s.k) (hb : RbS s) (hst : s.k.stamp < 10 ^ 39) (hn : (rowsC s.q.ct).length < 64) : RowOk s.q ∧ RwOk s.q.b s.q.p (rowsQ s.q.ct) := by
  have key : ∀ i e, s.q.ct.getD i none = some e → 1 ≤ e.1 / 128 ∧ e.1 / 128 < s.k.stamp ∧ e.1 % 128 ≤ 64 ∧ 0 ≤ e.2 ∧ e.2 < 10 ^ 30 ∧ (e.1 % 128 = 64 → e.2 < 2 ^ 64) := fun i e he => by
    have := hb.1.rng i (by unfold wrC; rw [he]; exact fun z => by cases z)
    unfold stC nmC vlC at this
    rw [he] at this
    exact this
  refine ⟨⟨hn, fun i e he => ?_, hb.1.inj, hw.ctl⟩, ⟨by unfold rowsQ; rw [List.length_mergeSort]; exact hn, fun r hr => ?_⟩⟩
  · have := key i e he
    omega
  · obtain ⟨i, hi⟩ := rowsQ_mem.mp hr
    obtain ⟨w1, e1, e2, e3, e4, e5⟩ := rowC_some hi
    have k1 := key i _ e5
    have hil : i < s.q.ct.length := by
      by_cases z : i < s.q.ct.length
      · exact z
      · unfold wrC at w1
        rw [List.getD_eq_getElem?_getD, List.getElem?_eq_none (by omega)] at w1
        exact absurd rfl w1
    have hl := hw.ctl
    have hnm : 0 ≤ nmC s.q.ct i ∧ nmC s.q.ct i ≤ 64 := ⟨by unfold nmC; omega, by have := hb.1.rng i w1; exact this.2.2.1⟩
    have hm := mk_st (st := r.st) (n := r.nm) (by omega)
    dsimp only at k1
    rw [hm.1, hm.2] at k1
    refine ⟨by omega, by omega, fun hN => ⟨k1.2.2.2.1, k1.2.2.2.2.2 ?_⟩⟩
    rcases newR_split (rowsQ s.q.ct) 0 with ⟨_, z2⟩ | ⟨pre, R, post, z1, z2, z3, z4⟩
    · omega
    · have hR : R ∈ rowsQ s.q.ct := by rw [z1]; exact List.mem_append_right _ List.mem_cons_self
      obtain ⟨j, hj⟩ := rowsQ_mem.mp hR
      obtain ⟨v1, d1, d2, d3, _⟩ := rowC_some hj
      have := hb.1.inj i j w1 v1 (by omega)
      rw [e3, this, ← d3]
      exact z2
theorem x_bookOf {T : Txt K mg} {H : Hp} {Q : VK} {E : XK} {r : Addr} {F : CF} {q : Pc} (hC : ChipP T.C_Chip H r F q) (hR : RowOk q) (hW : RwOk q.b q.p (rowsQ q.ct)) (q1 : q.dark = true → ∀ H', Same H H' → E (.ref T.C_PowerGone) none H')
    (q2 : q.dark = false → ∀ rb fb H', Same H H' → (∀ a ∈ BF.all fb rb, H a = none) → BookAt T.C_Book H' rb fb (bookR q.b q.p (rowsQ q.ct)) → Q (.ref rb) H') : spBookOf T [.ref r] H Q E := ⟨r, F, q, rfl, hC, hR, hW, q1, q2⟩
theorem x_bookOf2 {T : Txt K mg} {H : Hp} {Q : VK} {E : XK} {r : Addr} {F : CF} {s : St} (hC : ChipP T.C_Chip H r F s.q) (hw : Wf s.q s.k) (hb : RbS s) (hst : s.k.stamp < 10 ^ 39) (hn : (rowsC s.q.ct).length < 64) (q1 : s.q.dark = true → ∀ H', Same H H' → E (.ref T.C_PowerGone) none H')
    (q2 : s.q.dark = false → ∀ rb fb H', Same H H' → (∀ a ∈ BF.all fb rb, H a = none) → BookAt T.C_Book H' rb fb s.k → Q (.ref rb) H') : spBookOf T [.ref r] H Q E := by
  have er := rebuild hw hb.1 hb.2 hst
  rw [hw.kb, hw.kp] at er
  have ok := rb_ok hw hb hst hn
  refine x_bookOf hC ok.1 ok.2 q1 ?_
  rw [er]
  exact q2

/-! ### pages laid by hand: a book that knows the newest page of every name -/
theorem wf_putX {q q' : Pc} {k : Bk} {to m : Nat} {x n v : Int} (w : Wf q k) (P : Pl q.ct k to m x n v) (hx : x + 1 < 10 ^ 40) (e1 : q'.b = q.b) (e2 : q'.p = q.p) (e3 : q'.ct = setC q.ct to x n v) (e4 : q'.clr = q.clr) (e5 : q.log.length ≤ q'.log.length) : Wf q' ((k.at x).note to n) := by
  obtain ⟨q2, w2, c1, c2, c3⟩ := wf_putP w P hx
  exact ⟨by rw [w2.kb, c2, e1], by rw [w2.kp, c3, e2], by have := w2.ctl; rw [c1, c2, c3] at this; rw [e1, e2, e3]; exact this, w2.bk, w2.fil, by have := w2.clear; rw [c1, c2, c3] at this; rw [e1, e2, e3]; exact this, w2.keys, w2.rng, by have := w2.own; rw [c1] at this; rw [e3]; exact this, w2.nms, by have := w2.lv; rw [c2] at this; rw [e1]; exact this, w2.bn, fun i => by rw [e4]; have := w.cb i; omega⟩
/-- a chip without ills and with power -/
structure ChOk (q : Pc) : Prop where
  on : q.left = none
  ls : ∀ n, q.lasts.getD n .non = .non
  br : ∀ n, q.broken.getD n false = false
section
variable {q : Pc} {k : Bk} {pg : Int} {e : Int × Int}
theorem ChOk.put (h : ChOk q) : q.putP pg e = (none, { q.said (pg / q.p).toNat true ("put", pg) with ct := q.ct.set pg.toNat (some e) }) := by
  have hd : q.dark = false := by unfold Pc.dark; rw [h.on]; rfl
  have hw : q.well (pg / q.p).toNat false = true := by
    unfold Pc.well
    rw [h.ls, decide_eq_false (fun z => by cases z)]
    rfl
  unfold Pc.putP
  rw [if_neg (by rw [hd]; decide), if_pos hw]
theorem ChOk.put2 (h : ChOk q) : ChOk (q.putP pg e).2 := by
  rw [h.put]
  refine ⟨?_, h.ls, fun n => ?_⟩
  · show q.left.map _ = none
    rw [h.on]; rfl
  · show (q.broken.set _ (!true)).getD n false = false
    rw [getD_set']
    split
    · rfl
    · exact h.br n
theorem ChOk.dark (h : ChOk q) : q.dark = false := by unfold Pc.dark; rw [h.on]; rfl
structure HandB (q : Pc) (k : Bk) : Prop where
  fn : ChOk q
  wf : Wf q k
  rb : Rb0 q.ct k
  al : AllN q.ct k
theorem HandB.new {b p m : Int} (hb : 2 ≤ b ∧ b ≤ 16) (hp : 1 ≤ p ∧ p ≤ 16) : HandB (Pc.new b p m (List.replicate b.toNat .non)) (Bk.new b p) := by
  have hr := newBk_rb (b := b) (p := p) (n := (b * p).toNat)
  have rep : ∀ {α : Type} {d x : α} {n i : Nat}, x = d → (List.replicate n x).getD i d = d := fun {α d x n i} h => by
    rw [List.getD_eq_getElem?_getD, List.getElem?_replicate, h]
    split <;> rfl
  refine ⟨⟨rfl, fun n => rep rfl, fun n => rep rfl⟩, Wf.new (m := 0) (l := []) hb hp rfl rfl rfl fun n => ?_, hr.1, hr.2.1⟩
  rw [show (Pc.new b p m (List.replicate b.toNat .non)).clr.getD n 0 = 0 from rep rfl]
  exact ⟨Int.le_refl _, Int.natCast_nonneg _⟩
/-- the next page of a block -/
theorem HandB.pl (h : HandB q k) {m : Nat} {x n v : Int} (hm : m < q.b.toNat) (hf : k.fil.getD m 0 < q.p) (hx : k.stamp ≤ x) (hn : 0 ≤ n ∧ n ≤ 64) (hv : 0 ≤ v ∧ v < 10 ^ 30 ∧ (n = 64 → v < 2 ^ 64)) : Pl q.ct k (m * q.p.toNat + (k.fil.getD m 0).toNat) m x n v := by
  have w := h.wf
  have hp := w.bk.p
  have hb := w.bk.b
  have f0 := (w.fil m).1
  have hkp := w.kp
  have hkb := w.kb
  obtain ⟨p', hp'⟩ := Int.eq_ofNat_of_zero_le (show 0 ≤ q.p by omega)
  obtain ⟨f', hf'⟩ := Int.eq_ofNat_of_zero_le f0
  have e1 : q.p.toNat = p' := by rw [hp', Int.toNat_natCast]
  have hfl : f' < p' := by rw [hf', hp'] at hf; exact Int.ofNat_lt.mp hf
  have hcl := w.clear m f' hm (by omega) (by rw [hf']; exact Int.le_refl _)
  have hst := w.bk.st
  refine ⟨by rw [hkb]; exact hm, f0, by rw [hkp]; exact hf, by rw [hkp], ?_, ?_, ?_, ⟨by have := w.bk.fil; omega, by have := w.bk.born; omega⟩, ⟨hx, ?_⟩, hn, hv⟩
  · rw [hf', e1, Int.toNat_natCast, hkp, hp']
    have : ((m * p' + f' : Nat) : Int) / (p' : Int) = (m : Int) := by
      rw [← Int.natCast_ediv, Nat.mul_comm, Nat.mul_add_div (by omega), Nat.div_eq_of_lt hfl, Nat.add_zero]
    rw [this, Int.toNat_natCast]
  · unfold wrC
    rw [hf', Int.toNat_natCast, hcl]
    exact fun z => z rfl
  · have hl := w.ctl
    obtain ⟨b', hb'⟩ := Int.eq_ofNat_of_zero_le (show 0 ≤ q.b by omega)
    rw [hb', hp', ← Int.natCast_mul] at hl
    have hl := Int.ofNat_inj.mp hl
    rw [hf', e1, Int.toNat_natCast, hl]
    rw [hb', Int.toNat_natCast] at hm
    calc m * p' + f' < m * p' + p' := by omega
      _ = (m + 1) * p' := (Nat.succ_mul _ _).symm
      _ ≤ b' * p' := Nat.mul_le_mul_right _ hm
  · rcases h.rb.last with z | ⟨n, pg, z1, z2⟩
    · omega
    · have := h.rb.wr _ _ z1
      have := h.rb.rng _ this.1
      omega
theorem HandB.page (h : HandB q k) {m : Nat} (hm : m < q.b.toNat) (hf : k.fil.getD m 0 < q.p) : (0 ≤ (m : Int) * q.p + k.fil.getD m 0 ∧ (m : Int) * q.p + k.fil.getD m 0 < q.b * q.p) ∧ ((m : Int) * q.p + k.fil.getD m 0).toNat = m * q.p.toNat + (k.fil.getD m 0).toNat ∧ ((m : Int) * q.p + k.fil.getD m 0) / q.p = m := by
  have hp := h.wf.bk.p
  have f0 := (h.wf.fil m).1
  have hkp := h.wf.kp
  have hpa := page_at (n := m) (p := q.p) (x := k.fil.getD m 0) (by omega) f0 hf
  refine ⟨⟨?_, ?_⟩, hpa.2, hpa.1⟩
  · have : 0 ≤ (m : Int) * q.p := Int.mul_nonneg (Int.natCast_nonneg _) (by omega)
    omega
  · have : ((m : Int) + 1) * q.p ≤ q.b * q.p := Int.mul_le_mul_of_nonneg_right (by omega) (by omega)
    rw [Int.add_mul, Int.one_mul] at this
    omega
theorem HandB.put (h : HandB q k) {m : Nat} {x n v : Int} (hm : m < q.b.toNat) (hf : k.fil.getD m 0 < q.p) (hx : k.stamp ≤ x) (hx2 : x + 1 < 10 ^ 40) (hn : 0 ≤ n ∧ n ≤ 64) (hv : 0 ≤ v ∧ v < 10 ^ 30 ∧ (n = 64 → v < 2 ^ 64)) :
    (q.putP ((m : Int) * q.p + k.fil.getD m 0) (My.mk x n, v)).1 = none ∧ HandB (q.putP ((m : Int) * q.p + k.fil.getD m 0) (My.mk x n, v)).2 ((k.at x).note ((m : Int) * q.p + k.fil.getD m 0) n) := by
  have P := h.pl hm hf hx hn hv
  obtain ⟨⟨g0, g1⟩, gn, gb⟩ := h.page hm hf
  have ep : (((m * q.p.toNat + (k.fil.getD m 0).toNat : Nat)) : Int) = (m : Int) * q.p + k.fil.getD m 0 := by omega
  have f2 := h.fn.put2 (pg := (m : Int) * q.p + k.fil.getD m 0) (e := (My.mk x n, v))
  have hct : (q.putP ((m : Int) * q.p + k.fil.getD m 0) (My.mk x n, v)).2.ct = setC q.ct (m * q.p.toNat + (k.fil.getD m 0).toNat) x n v := by rw [h.fn.put]; show q.ct.set _ _ = _; rw [gn]; rfl
  refine ⟨by rw [h.fn.put], f2, ?_, ?_, ?_⟩
  · rw [← ep] at *
    exact wf_putX h.wf P hx2 putP_bp.1 putP_bp.2 hct putP_clr putP_log
  · rw [hct, ← ep]
    exact h.rb.put h.wf.keys P
  · rw [hct, ← ep]
    exact h.al.put P
end
/-! ### the rows of a law that lays pages -/
def noteR (k : Bk) (r : Row) : Bk := (k.at r.st).note r.pg r.nm
def kAll (b p : Int) (rows : List Row) : Bk := rows.foldl noteR (Bk.new b p)
theorem kAll_snoc {b p : Int} {rows : List Row} {r : Row} : kAll b p (rows ++ [r]) = noteR (kAll b p rows) r := by unfold kAll; rw [List.foldl_append]; rfl
theorem kAll_take {b p : Int} {rows : List Row} {i : Nat} {r : Row} (h : rows[i]? = some r) : kAll b p (rows.take (i + 1)) = noteR (kAll b p (rows.take i)) r := by rw [List.take_add_one, h]; exact kAll_snoc
/-- a row that is laid on the next page of a block -/
structure RowAt (b p : Int) (k : Bk) (r : Row) (m : Nat) : Prop where
  lt : m < b.toNat
  f0 : 0 ≤ k.fil.getD m 0
  f1 : k.fil.getD m 0 < p
  eq : r.pg = (m : Int) * p + k.fil.getD m 0
  st : k.stamp ≤ r.st
  nm : 0 ≤ r.nm ∧ r.nm ≤ 64
structure Laid (b p : Int) (rows : List Row) (q : Pc) : Prop where
  hb : HandB q (kAll b p rows)
  qb : q.b = b
  qp : q.p = p
  row : ∀ i r, rows[i]? = some r → ∃ m, RowAt b p (kAll b p (rows.take i)) r m
  ct : ∀ r ∈ rows, 0 ≤ r.pg ∧ q.ct.getD r.pg.toNat none = some (My.mk r.st r.nm, r.v)
  lg : q.log.length = rows.length
  cov : ∀ i, wrC q.ct i → ∃ r ∈ rows, r.pg = (i : Int)
theorem Laid.new {b p m : Int} (hb : 2 ≤ b ∧ b ≤ 16) (hp : 1 ≤ p ∧ p ≤ 16) : Laid b p [] (Pc.new b p m (List.replicate b.toNat .non)) :=
  ⟨HandB.new hb hp, rfl, rfl, fun i r h => by simp at h, fun r h => (by cases h), rfl, fun i h => by
    unfold wrC at h
    rw [show (Pc.new b p m (List.replicate b.toNat .non)).ct = List.replicate (b * p).toNat none from rfl, List.getD_eq_getElem?_getD, List.getElem?_replicate] at h
    split at h
    · exact absurd rfl h
    · exact absurd rfl h⟩
theorem Laid.put {b p : Int} {rows : List Row} {q : Pc} (h : Laid b p rows q) {m : Nat} {x n v : Int} (hm : m < b.toNat) (hf : (kAll b p rows).fil.getD m 0 < p) (hx : (kAll b p rows).stamp ≤ x) (hx2 : x + 1 < 10 ^ 40) (hn : 0 ≤ n ∧ n ≤ 64) (hv : 0 ≤ v ∧ v < 10 ^ 30 ∧ (n = 64 → v < 2 ^ 64)) :
    (q.putP ((m : Int) * p + (kAll b p rows).fil.getD m 0) (My.mk x n, v)).1 = none ∧ Laid b p (rows ++ [⟨x, (m : Int) * p + (kAll b p rows).fil.getD m 0, n, v⟩]) (q.putP ((m : Int) * p + (kAll b p rows).fil.getD m 0) (My.mk x n, v)).2 := by
  have hqb := h.qb
  have hqp := h.qp
  have hm' : m < q.b.toNat := by rw [hqb]; exact hm
  have hf' : (kAll b p rows).fil.getD m 0 < q.p := by rw [hqp]; exact hf
  obtain ⟨e1, e2⟩ := h.hb.put hm' hf' hx hx2 hn hv
  obtain ⟨⟨g0, g1⟩, gn, gb⟩ := h.hb.page hm' hf'
  have P := h.hb.pl hm' hf' hx hn hv
  have hfr := P.free
  have hln := P.len
  rw [← gn] at hfr hln
  rw [hqp] at e1 e2 g0 g1 gn gb hfr hln
  refine ⟨e1, by rw [kAll_snoc]; exact e2, putP_bp.1.trans hqb, putP_bp.2.trans hqp, fun i r hi => ?_, fun r hr => ?_, ?_, fun i hi => ?_⟩
  · by_cases hl : i < rows.length
    · rw [List.getElem?_append_left hl] at hi
      rw [List.take_append_of_le_length (by omega)]
      exact h.row i r hi
    · have e : i = rows.length := by
        have := (List.getElem?_eq_some_iff.mp hi).1
        rw [List.length_append, List.length_singleton] at this
        omega
      subst e
      rw [List.getElem?_append_right (Nat.le_refl _), Nat.sub_self] at hi
      cases hi
      rw [List.take_append_of_le_length (Nat.le_refl _), List.take_length]
      exact ⟨m, hm, (h.hb.wf.fil m).1, hf, rfl, hx, hn⟩
  · rw [h.hb.fn.put]
    show _ ∧ (q.ct.set _ _).getD _ none = _
    rw [getD_set hln]
    rcases List.mem_append.mp hr with hr | hr
    · obtain ⟨c0, c1⟩ := h.ct r hr
      refine ⟨c0, ?_⟩
      rw [if_neg (fun z => ?_)]
      · exact c1
      · rw [z] at c1
        exact hfr (by unfold wrC; rw [c1]; exact fun y => by cases y)
    · rw [List.mem_singleton.mp hr]
      exact ⟨g0, by rw [if_pos rfl]⟩
  · rw [h.hb.fn.put]
    show (q.log ++ [_]).length = _
    rw [List.length_append, List.length_append, h.lg]
    rfl
  · by_cases z : i = ((m : Int) * p + (kAll b p rows).fil.getD m 0).toNat
    · exact ⟨_, List.mem_append_right _ List.mem_cons_self, by show (m : Int) * p + (kAll b p rows).fil.getD m 0 = _; rw [z, Int.toNat_of_nonneg g0]⟩
    · rw [h.hb.fn.put] at hi
      have hi : (q.ct.set ((m : Int) * p + (kAll b p rows).fil.getD m 0).toNat _).getD i none ≠ none := hi
      rw [getD_set hln, if_neg z] at hi
      obtain ⟨r, hr, e⟩ := h.cov i hi
      exact ⟨r, List.mem_append_left _ hr, e⟩
theorem note_fil_at {b p : Int} {k : Bk} {r : Row} {m : Nat} (h : RowAt b p k r m) (hkp : k.p = p) (hfl : (k.fil.length : Int) = b) : (noteR k r).fil = k.fil.set m (k.fil.getD m 0 + 1) ∧ r.pg / p = (m : Int) ∧ (r.pg % p = 0 ↔ k.fil.getD m 0 = 0) ∧ (noteR k r).stamp = r.st + 1 := by
  have f0 := h.f0
  have f1 := h.f1
  have e := h.eq
  have hp0 : 0 < p := by omega
  have hd : r.pg / p = (m : Int) := by
    rw [e, Int.add_comm, Int.add_mul_ediv_right _ _ (by omega), Int.ediv_eq_zero_of_lt f0 f1, Int.zero_add]
  have hmod : r.pg % p = k.fil.getD m 0 := by
    rw [e, Int.add_comm, Int.add_mul_emod_self_right]
    exact Int.emod_eq_of_lt f0 f1
  refine ⟨?_, hd, by rw [hmod], ?_⟩
  · unfold noteR
    rw [noteA_fil, hkp, hd, Int.toNat_natCast]
  · exact noteA_st
theorem nodup_subH {α : Type} [DecidableEq α] : ∀ {l l' : List α}, l.Nodup → (∀ x ∈ l, x ∈ l') → l.length ≤ l'.length
  | [], _, _, _ => Nat.zero_le _
  | a :: l, l', h, s => by
    rw [List.nodup_cons] at h
    have h1 := nodup_subH (l := l) (l' := l'.erase a) h.2 fun x hx => (List.mem_erase_of_ne (fun z => h.1 (by rw [← z]; exact hx))).mpr (s x (List.mem_cons_of_mem _ hx))
    have h2 := List.length_erase_of_mem (s a List.mem_cons_self)
    have h3 := List.length_pos_of_mem (s a List.mem_cons_self)
    rw [List.length_cons]
    omega
theorem Laid.few {b p : Int} {rows : List Row} {q : Pc} (h : Laid b p rows q) : (rowsC q.ct).length ≤ rows.length := by
  have e : ((rowsC q.ct).map Row.pg).length ≤ (rows.map Row.pg).length := by
    refine nodup_subH ?_ fun x hx => ?_
    · refine List.pairwise_map.mpr ?_
      unfold rowsC
      refine List.pairwise_filterMap.mpr (List.Pairwise.imp (fun {i j} hij a ha b hb e => ?_) List.nodup_range)
      obtain ⟨_, _, e1, _⟩ := rowC_some ha
      obtain ⟨_, _, e2, _⟩ := rowC_some hb
      rw [e1, e2] at e
      exact hij (Int.ofNat_inj.mp e)
    · obtain ⟨r, hr, rfl⟩ := List.mem_map.mp hx
      unfold rowsC at hr
      obtain ⟨i, _, e⟩ := List.mem_filterMap.mp hr
      obtain ⟨w, _, e1, _⟩ := rowC_some e
      obtain ⟨r', hr', e'⟩ := h.cov i w
      exact List.mem_map.mpr ⟨r', hr', by rw [e', e1]⟩
  rw [List.length_map, List.length_map] at e
  exact e
theorem kAll_key {b p n : Int} {rows : List Row} (h : ∀ r ∈ rows, r.nm ≠ n) : getI (kAll b p rows).wh n = none := by
  have key : ∀ (l : List Row) (k : Bk), getI k.wh n = none → (∀ r ∈ l, r.nm ≠ n) → getI (l.foldl noteR k).wh n = none := fun l => by
    induction l with
    | nil => exact fun k h _ => h
    | cons r l ih =>
      intro k hk hl
      rw [List.foldl_cons]
      refine ih _ ?_ fun x hx => hl x (List.mem_cons_of_mem _ hx)
      unfold noteR
      rw [noteA_wh, if_neg (fun z => hl r List.mem_cons_self z.symm)]
      exact hk
  exact key rows _ rfl h
/-- without rolls all names stay -/
theorem Laid.rb {b p : Int} {rows : List Row} {q : Pc} (h : Laid b p rows q) (hn : ∀ r ∈ rows, r.nm < 64) {pp : List Pap} {R : Rl} : RbS ⟨q, kAll b p rows, pp, R⟩ := by
  have k0 : getI (kAll b p rows).wh 64 = none := kAll_key fun r hr z => by have := hn r hr; omega
  refine ⟨h.hb.rb, fun i hi hg => absurd hg (h.hb.al i hi), fun n pg rp _ _ hr _ => ?_⟩
  rw [k0] at hr
  cases hr
theorem kAll_whl {b p : Int} {rows : List Row} : (kAll b p rows).wh.length ≤ rows.length := by
  have key : ∀ (l : List Row) (k : Bk), (l.foldl noteR k).wh.length ≤ k.wh.length + l.length := fun l => by
    induction l with
    | nil => exact fun k => Nat.le_refl _
    | cons r l ih =>
      intro k
      rw [List.foldl_cons, List.length_cons]
      have h1 := ih (noteR k r)
      have h2 : (noteR k r).wh.length ≤ (k.at r.st).wh.length + 1 := note_whl
      have h3 : (k.at r.st).wh.length = k.wh.length := rfl
      omega
  have := key rows (Bk.new b p)
  have h0 : (Bk.new b p).wh.length = 0 := rfl
  show (rows.foldl noteR (Bk.new b p)).wh.length ≤ _
  omega

/-! ### a law's rows of pages laid by hand, and what is due -/
theorem Laid.nk {b p : Int} {rows : List Row} {q : Pc} (h : Laid b p rows q) : (kAll b p rows).b = b ∧ (kAll b p rows).p = p := ⟨h.hb.wf.kb.trans h.qb, h.hb.wf.kp.trans h.qp⟩
theorem kAll_bp {b p : Int} : ∀ {rows : List Row}, (kAll b p rows).b = b ∧ (kAll b p rows).p = p := fun {rows} => by
  have key : ∀ (l : List Row) (k : Bk), (l.foldl noteR k).b = k.b ∧ (l.foldl noteR k).p = k.p := fun l => by
    induction l with
    | nil => exact fun k => ⟨rfl, rfl⟩
    | cons r l ih =>
      intro k
      rw [List.foldl_cons]
      exact ⟨(ih _).1.trans noteA_bp.1, (ih _).2.trans noteA_bp.2⟩
  exact key rows _
theorem kAll_len {b p : Int} : ∀ {rows : List Row}, (kAll b p rows).fil.length = b.toNat ∧ (kAll b p rows).born.length = b.toNat ∧ (kAll b p rows).live.length = b.toNat := fun {rows} => by
  have key : ∀ (l : List Row) (k : Bk), (l.foldl noteR k).fil.length = k.fil.length ∧ (l.foldl noteR k).born.length = k.born.length ∧ (l.foldl noteR k).live.length = k.live.length := fun l => by
    induction l with
    | nil => exact fun k => ⟨rfl, rfl, rfl⟩
    | cons r l ih =>
      intro k
      rw [List.foldl_cons]
      obtain ⟨a, b, c⟩ := ih (noteR k r)
      refine ⟨a.trans ?_, b.trans ?_, c.trans ?_⟩
      · unfold noteR; rw [noteA_fil, List.length_set]
      · unfold noteR; rw [noteA_born]; split
        · rw [List.length_set]
        · rfl
      · unfold noteR Bk.note Bk.drop Bk.at
        dsimp only
        split <;> simp
  have := key rows (Bk.new b p)
  refine ⟨this.1.trans ?_, this.2.1.trans ?_, this.2.2.trans ?_⟩ <;> exact List.length_replicate
theorem kAll_row {b p : Int} {rows : List Row} {q : Pc} (h : Laid b p rows q) {i : Nat} {r : Row} (hi : rows[i]? = some r) : ∃ m : Nat, m < b.toNat ∧ r.pg / p = (m : Int) ∧ (r.pg % p = 0 ↔ (kAll b p (rows.take i)).fil.getD m 0 = 0) ∧ (kAll b p (rows.take (i + 1))).fil = (kAll b p (rows.take i)).fil.set m ((kAll b p (rows.take i)).fil.getD m 0 + 1) ∧
    (kAll b p (rows.take (i + 1))).born = (if r.pg % p = 0 then (kAll b p (rows.take i)).born.set m r.st else (kAll b p (rows.take i)).born) ∧ (kAll b p (rows.take (i + 1))).stamp = r.st + 1 ∧ (∀ n, getI (kAll b p (rows.take (i + 1))).wh n = if n = r.nm then some r.pg else getI (kAll b p (rows.take i)).wh n) ∧ 0 ≤ r.pg ∧ r.pg < b * p ∧ 1 ≤ r.st ∧ (0 ≤ r.nm ∧ r.nm ≤ 64) := by
  obtain ⟨m, hm⟩ := h.row i r hi
  obtain ⟨e1, e2, e3, e4⟩ := note_fil_at hm kAll_bp.2 (b := b) (by have := (kAll_len (b := b) (p := p) (rows := rows.take i)).1; have := h.hb.wf.bk.b; rw [h.nk.1] at this; omega)
  have f0 := hm.f0
  have f1 := hm.f1
  have lt := hm.lt
  have st := hm.st
  have hp0 : 0 < p := by omega
  have hst1 : 1 ≤ r.st := by
    have key : ∀ (l : List Row) (k : Bk), 1 ≤ k.stamp → (∀ j x, l[j]? = some x → ((l.take j).foldl noteR k).stamp ≤ x.st) → 1 ≤ (l.foldl noteR k).stamp := fun l => by
      induction l with
      | nil => exact fun k h _ => h
      | cons x l ih =>
        intro k hk hl
        rw [List.foldl_cons]
        refine ih _ ?_ (fun j y hy => hl (j + 1) y hy)
        have : k.stamp ≤ x.st := hl 0 x rfl
        have : (noteR k x).stamp = x.st + 1 := noteA_st
        omega
    have hl := (List.getElem?_eq_some_iff.mp hi).1
    have := key (rows.take i) (Bk.new b p) (Int.le_refl _) (fun j x hx => by
      have hj : j < i := by
        have := (List.getElem?_eq_some_iff.mp hx).1
        rw [List.length_take] at this
        omega
      rw [List.getElem?_take_of_lt hj] at hx
      obtain ⟨m', hm'⟩ := h.row j x hx
      rw [List.take_take, Nat.min_eq_left (by omega)]
      exact hm'.st)
    have : 1 ≤ (kAll b p (rows.take i)).stamp := this
    omega
  have hpg : 0 ≤ r.pg ∧ r.pg < b * p := by
    have e := hm.eq
    have h1 : 0 ≤ (m : Int) * p := Int.mul_nonneg (Int.natCast_nonneg _) (by omega)
    have h2 : ((m : Int) + 1) * p ≤ b * p := Int.mul_le_mul_of_nonneg_right (by omega) (by omega)
    rw [Int.add_mul, Int.one_mul] at h2
    omega
  refine ⟨m, lt, e2, e3, by rw [kAll_take hi]; exact e1, ?_, by rw [kAll_take hi]; exact e4, fun n => by rw [kAll_take hi]; exact noteA_wh, hpg.1, hpg.2, hst1, hm.nm⟩
  rw [kAll_take hi]
  unfold noteR
  rw [noteA_born, kAll_bp.2, e2, Int.toNat_natCast]
  by_cases z : (kAll b p (rows.take i)).fil.getD m 0 = 0
  · rw [if_pos z, if_pos (e3.mpr z)]
  · rw [if_neg z, if_neg (fun y => z (e3.mp y))]
/-- dicts that tell the same -/
theorem perm_of_get {l l' : List (Int × Int)} (hk : (l.map (·.1)).Nodup) (hk' : (l'.map (·.1)).Nodup) (e : ∀ n, getI l n = getI l' n) : l.Perm l' := by
  have nd : ∀ {l : List (Int × Int)}, (l.map (·.1)).Nodup → l.Nodup := fun {l} h => List.Pairwise.of_map (fun e : Int × Int => e.1) (fun a b (h : a.1 ≠ b.1) (z : a = b) => h (by rw [z])) h
  have mem : ∀ {l l' : List (Int × Int)}, (l.map (·.1)).Nodup → (∀ n, getI l n = getI l' n) → ∀ x, x ∈ l → x ∈ l' := fun {l l'} h e x hx => by
    have := getI_of_mem h (n := x.1) (x := x.2) hx
    rw [e] at this
    exact getI_mem this
  exact (List.perm_ext_iff_of_nodup (nd hk) (nd hk')).mpr fun x => ⟨mem hk e x, mem hk' (fun n => (e n).symm) x⟩

--#CUT
/-! ### a law's mix of a cell -/
def mixM (c k : Int) : Int := (c % 2147483647 + 7919 * k + 17) * 48271 % 2147483647
def mixI (c k : Int) : Int := mixM c k * mixM c k % 1000003
theorem mix_rng {c k : Int} : 0 ≤ mixI c k ∧ mixI c k < 1000003 := ⟨Int.emod_nonneg _ (by decide), Int.emod_lt_of_pos _ (by decide)⟩
def spMix : Sp := fun vs H Q _ => ∃ (c k : Int), vs = [.int c, .int k] ∧ (0 ≤ k ∧ k ≤ 1000000) ∧ Q (.int (mixI c k)) H
theorem x_mix2 {H : Hp} {Q : VK} {E : XK} {c k : Int} (q : Q (.int (mixI c k)) H) (hk : 0 ≤ k ∧ k ≤ 1000000) : spMix [.int c, .int k] H Q E := ⟨c, k, rfl, hk, q⟩
theorem ok_mix (T : Txt K mg) : FO P w K mg base 1 T.a__law_mix T.fd__law_mix ["_law_cell", "_law_k"] spMix := by
  have sc := sc__law_mix
  refine T.F__law_mix.okX sc (fun vs H Q E h => ?_) (fun cdv A outer s H vs Q E hr h => ?_)
  · obtain ⟨_, _, rfl, _⟩ := h
    rfl
  obtain ⟨c, k, rfl, hk, q⟩ := h
  refine ⟨_, (pss_cons (ps_set (i := 2) sc.nd rfl (by first | exact Or.inl rfl | exact Or.inr rfl) (pe_op op_mod (pe_op op_uMul (pe_op op_uAdd (pe_op op_uAdd (pe_op op_mod (pv 0) pe_int) (pe_op op_uMul pe_int (pv 1))) pe_int) pe_int) pe_int))
      (pss_one (ps_ret (pe_op op_mod (pe_op op_uMul (pv 2) (pv 2)) pe_int)))), ?_⟩
  have h1 : 0 ≤ c % 2147483647 ∧ c % 2147483647 < 2147483647 := ⟨Int.emod_nonneg _ (by decide), Int.emod_lt_of_pos _ (by decide)⟩
  have h2 : 0 ≤ mixM c k ∧ mixM c k < 2147483647 := ⟨Int.emod_nonneg _ (by decide), Int.emod_lt_of_pos _ (by decide)⟩
  unfold mixI mixM at q
  unfold mixM at h2
  walk_at "begin"
  walk_at "go"
  exact q
local macro_rules | `(tactic| walk_at "u") => `(tactic| ((with_reducible refine x_mix2 ?_ ?hs); (try (case hs => walk_at "side"))))

/-! ### numbers, pairs, and all that is told -/
theorem x_listT {H : Hp} {Q : VK} {p : Addr} {xs : List V} (h : SqT K H p xs) (q : ∀ p H', H p = none → Same H H' → H' p = some (.lst xs) → Q (.ref p) H') : uList K [.ref p] H Q := .inl ⟨p, xs, rfl, .inr h, fun p hp => q p _ hp (same_upd hp) upd_same⟩
local macro_rules | `(tactic| walk_at "u") => `(tactic| ((with_reducible refine' x_listT ?hq ?_); (case hq => walk_at "sq"); intro p H1 hp hs hn))
def spNum2 (K : PySem.W.Frag) : Sp := fun vs H Q _ => ∃ (p q : Addr) (ns : List Int), vs = [.ref p, .ref q] ∧ H p = some (.lst (ns.map V.int)) ∧ H q = some (.lst (ns.map V.int)) ∧ ns.length ≤ 1000 ∧ ∀ H', Same H H' → Q (.bl true) H'
theorem x_num2 {H : Hp} {Q : VK} {E : XK} {p q : Addr} {ns : List Int} (hp : H p = some (.lst (ns.map V.int))) (hq : H q = some (.lst (ns.map V.int))) (hl : ns.length ≤ 1000) (k : ∀ H', Same H H' → Q (.bl true) H') : spNum2 K [.ref p, .ref q] H Q E := ⟨p, q, ns, rfl, hp, hq, hl, k⟩
theorem ok_numbers (T : Txt K mg) : FO P w K mg base 2 T.a__law_numbers T.fd__law_numbers ["_law_found", "_law_due_here"] (spNum2 K) := by
  have sc := sc__law_numbers
  refine T.F__law_numbers.okX sc (fun vs H Q E h => ?_) (fun cdv A outer s H vs Q E hr h => ?_)
  · obtain ⟨_, _, _, rfl, _⟩ := h
    rfl
  obtain ⟨p, q0, ns, rfl, hp, hq, hl, q⟩ := h
  refine ⟨_, (pss_cons (ps_if (PW.pt (pw_or (pt_not (pt_truth (pe_callB (cr_uisinstance) (by rfl) T.b_isinstance bt_isinstance (pa_cons (pv 0) (pa_cons (pe_bltn (v := .ty "list") (by rfl) T.b_list bt_list rfl) pa_nil))) (by intro _; rfl))) (pw_or1 (pt_cmpR (op_uNe hr.units) (pe_callB (cr_ulen) (by rfl) T.b_len bt_len (pa_cons (pv 0) pa_nil)) (pe_callB (cr_ulen) (by rfl) T.b_len bt_len (pa_cons (pv 1) pa_nil)) (nomark _))))) (pss_one (ps_ret pe_bl)) pss_nil)
      (pss_cons (ps_for (passes_of rfl) rfl (pi_zip (by rfl) T.b_zip (pa_cons (pv 0) (pa_cons (pv 1) pa_nil))) (pg_tup (by rfl) (pgs_cons (pg_name (i := 2) sc.nd rfl (by first | exact Or.inl rfl | exact Or.inr rfl)) (pgs_cons (pg_name (i := 3) sc.nd rfl (by first | exact Or.inl rfl | exact Or.inr rfl)) pgs_nil))) (pss_one (ps_if (PW.pt (pw_or (pt_not (pt_truth (pe_callS (ok_whole T) (hr.mono (by decide)) (by rfl) T.g__law_whole T.k__law_whole T.bd__law_whole (passAt (takes_of rfl rfl rfl rfl)) (pa_cons (pv 2) pa_nil)) (by intro _; rfl))) (pw_or1 (pt_cmpR (op_uNe hr.units) (pv 2) (pv 3) (nomark _))))) (pss_one (ps_ret pe_bl)) pss_nil)))
      (pss_one (ps_ret pe_bl)))), ?_⟩
  have hll : (ns.map V.int).length = (ns.map V.int).length := rfl
  walk_at "begin"
  walk_at "if"
  rw [if_pos (decide_eq_true rfl)]
  walk_at "go"
  walk_at "if"
  refine x_frZ (SqL.of hp) (SqL.of hq) rfl (fun i σ H' => ∃ v2 v3, σ = [some (.ref p), some (.ref q0), v2, v3] ∧ Same H H') ⟨_, _, rfl, fun _ _ h => h⟩ (fun i σ H' ⟨_, _, _, h⟩ => ⟨SqL.of (h _ _ hp), SqL.of (h _ _ hq)⟩) ?_ ?_
  · intro i x y σ H1 H2 hx hy ⟨v2, v3, hσ, hs1⟩ hs2
    subst hσ
    rw [hx] at hy
    cases hy
    rw [List.getElem?_map] at hx
    cases he : ns[i]? with
    | none => rw [he] at hx; cases hx
    | some n =>
      rw [he] at hx
      cases hx
      walk_at "go"
      rw [show decide (n = n) = true from decide_eq_true rfl]
      walk_at "go"
      exact ⟨_, _, rfl, hs1.trans hs2⟩
  · intro σ H1 ⟨v2, v3, hσ, hs1⟩
    subst hσ
    walk_at "go"
    exact q H1 hs1
def spPairs2 (K : PySem.W.Frag) : Sp := fun vs H Q _ => ∃ (p q : Addr) (xs ys : List V) (ls : List (Int × Int)), vs = [.ref p, .ref q] ∧ H p = some (.lst xs) ∧ H q = some (.lst ys) ∧ PairL H xs ls ∧ PairL H ys ls ∧ ls.length ≤ 1000 ∧ ∀ H', Same H H' → Q (.bl true) H'
theorem x_pairs2 {H : Hp} {Q : VK} {E : XK} {p q : Addr} {xs ys : List V} {ls : List (Int × Int)} (hp : H p = some (.lst xs)) (hq : H q = some (.lst ys)) (h1 : PairL H xs ls) (h2 : PairL H ys ls) (hl : ls.length ≤ 1000) (k : ∀ H', Same H H' → Q (.bl true) H') : spPairs2 K [.ref p, .ref q] H Q E := ⟨p, q, xs, ys, ls, rfl, hp, hq, h1, h2, hl, k⟩
theorem ok_pairs (T : Txt K mg) : FO P w K mg base 3 T.a__law_pairs T.fd__law_pairs ["_law_found", "_law_due_here"] (spPairs2 K) := by
  have sc := sc__law_pairs
  refine T.F__law_pairs.okX sc (fun vs H Q E h => ?_) (fun cdv A outer s H vs Q E hr h => ?_)
  · obtain ⟨_, _, _, _, _, rfl, _⟩ := h
    rfl
  obtain ⟨p, q0, xs, ys, ls, rfl, hp, hq, h1, h2, hl, q⟩ := h
  refine ⟨_, (pss_cons (ps_if (PW.pt (pw_or (pt_not (pt_truth (pe_callB (cr_uisinstance) (by rfl) T.b_isinstance bt_isinstance (pa_cons (pv 0) (pa_cons (pe_bltn (v := .ty "list") (by rfl) T.b_list bt_list rfl) pa_nil))) (by intro _; rfl))) (pw_or1 (pt_cmpR (op_uNe hr.units) (pe_callB (cr_ulen) (by rfl) T.b_len bt_len (pa_cons (pv 0) pa_nil)) (pe_callB (cr_ulen) (by rfl) T.b_len bt_len (pa_cons (pv 1) pa_nil)) (nomark _))))) (pss_one (ps_ret pe_bl)) pss_nil)
      (pss_cons (ps_for (passes_of rfl) rfl (pi_zip (by rfl) T.b_zip (pa_cons (pv 0) (pa_cons (pv 1) pa_nil))) (pg_tup (by rfl) (pgs_cons (pg_name (i := 2) sc.nd rfl (by first | exact Or.inl rfl | exact Or.inr rfl)) (pgs_cons (pg_name (i := 3) sc.nd rfl (by first | exact Or.inl rfl | exact Or.inr rfl)) pgs_nil))) (pss_one (ps_if (PW.pt (pw_or (pt_not (pt_truth (pe_callB (cr_uisinstance) (by rfl) T.b_isinstance bt_isinstance (pa_cons (pv 2) (pa_cons (pe_bltn (v := .ty "tuple") (by rfl) T.b_tuple bt_tuple rfl) pa_nil))) (by intro _; rfl))) (pw_or (pt_cmpR (op_uNe hr.units) (pe_callB (cr_ulen) (by rfl) T.b_len bt_len (pa_cons (pv 2) pa_nil)) pe_int (nomark _)) (pw_or1 (pt_not (pt_truth (pe_callS (ok_numbers T) (hr.mono (by decide)) (by rfl) T.g__law_numbers T.k__law_numbers T.bd__law_numbers (passAt (takes_of rfl rfl rfl rfl)) (pa_cons (pe_callTy ct_list (by rfl) T.b_list bt_list (pa_cons (pv 2) pa_nil)) (pa_cons (pe_callTy ct_list (by rfl) T.b_list bt_list (pa_cons (pv 3) pa_nil)) pa_nil))) (by intro _; rfl))))))) (pss_one (ps_ret pe_bl)) pss_nil)))
      (pss_one (ps_ret pe_bl)))), ?_⟩
  have hxy : xs.length = ys.length := h1.1.trans h2.1.symm
  walk_at "begin"
  walk_at "if"
  rw [if_pos (decide_eq_true (by rw [hxy]))]
  walk_at "go"
  walk_at "if"
  refine x_frZ (SqL.of hp) (SqL.of hq) hxy (fun i σ H' => ∃ v2 v3, σ = [some (.ref p), some (.ref q0), v2, v3] ∧ Same H H') ⟨_, _, rfl, fun _ _ h => h⟩ (fun i σ H' ⟨_, _, _, h⟩ => ⟨SqL.of (h _ _ hp), SqL.of (h _ _ hq)⟩) ?_ ?_
  · intro i x y σ H1 H2 hx hy ⟨v2, v3, hσ, hs1⟩ hs2
    subst hσ
    have hil := (List.getElem?_eq_some_iff.mp hx).1
    obtain ⟨e, he⟩ : ∃ e, ls[i]? = some e := ⟨_, List.getElem?_eq_getElem (by have := h1.1; omega)⟩
    obtain ⟨t1, rfl, ht1⟩ := h1.2 i x e hx he
    obtain ⟨t2, rfl, ht2⟩ := h2.2 i y e hy he
    have s02 := hs1.trans hs2
    have g1 := s02 _ _ ht1
    have g2 := s02 _ _ ht2
    walk_at "go"
    refine x_iteD (fun _ => ?_) (fun z => absurd rfl z)
    walk_at "go"
    rename_i p1 H3 hp1 hs3 hn3
    refine x_listT (SqT.of (hs3 _ _ g2)) fun p2 H4 hp2 hs4 hn4 => ?_
    walk_at "go"
    have hn3' := hs4 _ _ hn3
    refine x_num2 (ns := [e.1, e.2]) hn3' hn4 (by show 2 ≤ 1000; decide) fun H5 hs5 => ?_
    walk_at "go"
    exact ⟨_, _, rfl, ((s02.trans hs3).trans hs4).trans hs5⟩
  · intro σ H1 ⟨v2, v3, hσ, hs1⟩
    subst hσ
    walk_at "go"
    exact q H1 hs1
structure Told5 (H : Hp) (q : Addr) (kv : List (Int × Int)) (lv fl bn : List Int) (st : Int) : Prop where
  ex : ∃ (p1 p2 p3 p4 : Addr) (ys : List V), H q = some (.tup [.ref p1, .ref p2, .ref p3, .ref p4, .int st]) ∧ H p1 = some (.lst ys) ∧ PairL H ys kv ∧ H p2 = some (.lst (lv.map V.int)) ∧ H p3 = some (.lst (fl.map V.int)) ∧ H p4 = some (.lst (bn.map V.int))
theorem Told5.mono {H H' : Hp} {q : Addr} {kv : List (Int × Int)} {lv fl bn : List Int} {st : Int} (s : Same H H') (h : Told5 H q kv lv fl bn st) : Told5 H' q kv lv fl bn st := by
  obtain ⟨p1, p2, p3, p4, ys, a, b, c, d, e, f⟩ := h.ex
  exact ⟨p1, p2, p3, p4, ys, s _ _ a, s _ _ b, c.mono (TupS.of s), s _ _ d, s _ _ e, s _ _ f⟩
theorem TellAt.t5 {H0 H : Hp} {q : Addr} {k : Bk} (h : TellAt H0 H q k) : Told5 H q (sortP k.wh) k.live k.fil k.born k.stamp := by
  obtain ⟨p1, p2, p3, p4, ys, _, a, b, c, d, e, f⟩ := h.ex
  exact ⟨p1, p2, p3, p4, ys, a, b, c, d, e, f⟩
def spTold2 (K : PySem.W.Frag) : Sp := fun vs H Q _ => ∃ (p q : Addr) (kv : List (Int × Int)) (lv fl bn : List Int) (st : Int), vs = [.ref p, .ref q] ∧ Told5 H p kv lv fl bn st ∧ Told5 H q kv lv fl bn st ∧ (kv.length ≤ 1000 ∧ lv.length ≤ 1000 ∧ fl.length ≤ 1000 ∧ bn.length ≤ 1000) ∧ ∀ H', Same H H' → Q (.bl true) H'
theorem ok_told (T : Txt K mg) : FO P w K mg base 4 T.a__law_told T.fd__law_told ["_law_found", "_law_due_here"] (spTold2 K) := by
  have sc := sc__law_told
  refine T.F__law_told.okX sc (fun vs H Q E h => ?_) (fun cdv A outer s H vs Q E hr h => ?_)
  · obtain ⟨_, _, _, _, _, _, _, rfl, _⟩ := h
    rfl
  obtain ⟨p, q0, kv, lv, fl, bn, st, rfl, h1, h2, ⟨hl1, hl2, hl3, hl4⟩, q⟩ := h
  refine ⟨_, (pss_cons (ps_if (PW.pt (pw_or (pt_not (pt_truth (pe_callB (cr_uisinstance) (by rfl) T.b_isinstance bt_isinstance (pa_cons (pv 0) (pa_cons (pe_bltn (v := .ty "tuple") (by rfl) T.b_tuple bt_tuple rfl) pa_nil))) (by intro _; rfl))) (pw_or (pt_cmpR (op_uNe hr.units) (pe_callB (cr_ulen) (by rfl) T.b_len bt_len (pa_cons (pv 0) pa_nil)) pe_int (nomark _)) (pw_or1 (pt_not (pt_truth (pe_callS (ok_pairs T) (hr.mono (by decide)) (by rfl) T.g__law_pairs T.k__law_pairs T.bd__law_pairs (passAt (takes_of rfl rfl rfl rfl)) (pa_cons (pe_ix ix_seq (pv 0) pe_int (fun _ _ => rfl)) (pa_cons (pe_ix ix_seq (pv 1) pe_int (fun _ _ => rfl)) pa_nil))) (by intro _; rfl))))))) (pss_one (ps_ret pe_bl)) pss_nil)
      (pss_cons (ps_for (passes_of rfl) rfl (pi_tup (pe_tup (pa_cons pe_int (pa_cons pe_int (pa_cons pe_int pa_nil))))) (pg_name (i := 2) sc.nd rfl (by first | exact Or.inl rfl | exact Or.inr rfl)) (pss_one (ps_if (pt_not (pt_truth (pe_callS (ok_numbers T) (hr.mono (by decide)) (by rfl) T.g__law_numbers T.k__law_numbers T.bd__law_numbers (passAt (takes_of rfl rfl rfl rfl)) (pa_cons (pe_ix ix_seq (pv 0) (pv 2) (fun _ _ => rfl)) (pa_cons (pe_ix ix_seq (pv 1) (pv 2) (fun _ _ => rfl)) pa_nil))) (by intro _; rfl))) (pss_one (ps_ret pe_bl)) pss_nil)))
      (pss_one (ps_ret (pe_andT (pe_callS (ok_whole T) (hr.mono (by decide)) (by rfl) T.g__law_whole T.k__law_whole T.bd__law_whole (passAt (takes_of rfl rfl rfl rfl)) (pa_cons (pe_ix ix_seq (pv 0) pe_int (fun _ _ => rfl)) pa_nil)) (pe_one (pe_cmpR (op_uEq hr.units) (pe_ix ix_seq (pv 0) pe_int (fun _ _ => rfl)) (pe_ix ix_seq (pv 1) pe_int (fun _ _ => rfl)) (nomark _)))))))), ?_⟩
  obtain ⟨a1, a2, a3, a4, xs, b0, b1, b2, b3, b4, b5⟩ := h1.ex
  obtain ⟨c1, c2, c3, c4, ys, d0, d1, d2, d3, d4, d5⟩ := h2.ex
  walk_at "begin"
  walk_at "if"
  refine x_iteD (fun _ => ?_) (fun z => absurd rfl z)
  walk_at "go"
  refine x_pairs2 b1 d1 b2 d2 hl1 fun H1 hs1 => ?_
  walk_at "go"
  refine x_seq ?_
  walk_at "go"
  rename_i tp H2 htp hs2 hn2
  have s02 := hs1.trans hs2
  refine x_frT (SqT.of hn2) (fun i σ H' => ∃ v2, σ = [some (.ref p), some (.ref q0), v2] ∧ Same H2 H') ⟨_, rfl, fun _ _ h => h⟩ (fun i σ H' _ ⟨_, _, h⟩ => SqT.of (h _ _ hn2)) ?_ ?_
  · intro i x σ H3 hx ⟨v2, hσ, hs3⟩
    subst hσ
    have s03 := s02.trans hs3
    have e0 := s03 _ _ b0
    have f0 := s03 _ _ d0
    have e3 := s03 _ _ b3
    have e4 := s03 _ _ b4
    have e5 := s03 _ _ b5
    have f3 := s03 _ _ d3
    have f4 := s03 _ _ d4
    have f5 := s03 _ _ d5
    have hi : i = 0 ∨ i = 1 ∨ i = 2 := by
      have := (List.getElem?_eq_some_iff.mp hx).1
      simp at this
      omega
    rcases hi with rfl | rfl | rfl
    · cases hx
      walk_at "go"
      refine x_num2 e3 f3 hl2 fun H4 hs4 => ?_
      walk_at "go"
      exact ⟨_, rfl, hs3.trans hs4⟩
    · cases hx
      walk_at "go"
      refine x_num2 e4 f4 hl3 fun H4 hs4 => ?_
      walk_at "go"
      exact ⟨_, rfl, hs3.trans hs4⟩
    · cases hx
      walk_at "go"
      refine x_num2 e5 f5 hl4 fun H4 hs4 => ?_
      walk_at "go"
      exact ⟨_, rfl, hs3.trans hs4⟩
  · intro σ H3 ⟨v2, hσ, hs3⟩
    subst hσ
    have s03 := s02.trans hs3
    have e0 := s03 _ _ b0
    have f0 := s03 _ _ d0
    walk_at "go"
    rw [show decide (st = st) = true from decide_eq_true rfl]
    walk_at "go"
    exact q H3 s03
/-! ### what is due -/
def r3 (r : Row) : List Int := [r.st, r.pg, r.nm]
def cntL (b p : Int) (l : List (Int × Int)) : List Int := (List.range b.toNat).map fun n : Nat => ((l.filter fun e => decide (e.2 / p = (n : Int))).length : Int)
theorem cntL_len {b p : Int} {l : List (Int × Int)} : (cntL b p l).length = b.toNat := by unfold cntL; rw [List.length_map, List.length_range]
theorem cntL_get {b p : Int} {l : List (Int × Int)} {n : Nat} (h : n < b.toNat) : (cntL b p l).getD n 0 = ((l.filter fun e => decide (e.2 / p = (n : Int))).length : Int) := by
  unfold cntL
  rw [List.getD_eq_getElem?_getD, List.getElem?_map, List.getElem?_range h]
  rfl
theorem cntL_snoc {b p : Int} {l : List (Int × Int)} {e : Int × Int} (h0 : 0 ≤ e.2 / p) (h1 : e.2 / p < b) : cntL b p (l ++ [e]) = (cntL b p l).set (e.2 / p).toNat ((cntL b p l).getD (e.2 / p).toNat 0 + 1) := by
  refine List.ext_getElem? fun i => ?_
  by_cases hi : i < b.toNat
  · rw [List.getElem?_set]
    have g : ∀ l : List (Int × Int), (cntL b p l)[i]? = some ((l.filter fun e => decide (e.2 / p = (i : Int))).length : Int) := fun l => by
      unfold cntL
      rw [List.getElem?_map, List.getElem?_range hi]
      rfl
    rw [g, g, List.filter_append, List.length_append]
    by_cases he : (e.2 / p).toNat = i
    · have he' : e.2 / p = (i : Int) := by omega
      rw [if_pos he, if_pos (by rw [cntL_len]; omega), he, cntL_get hi, List.filter_cons_of_pos (by rw [he']; exact decide_eq_true rfl)]
      rfl
    · rw [if_neg he, List.filter_cons_of_neg (by rw [decide_eq_true_iff]; omega)]
      rfl
  · rw [List.getElem?_eq_none (by rw [cntL_len]; omega), List.getElem?_eq_none (by rw [List.length_set, cntL_len]; omega)]
theorem Laid.cnt {b p : Int} {rows : List Row} {q : Pc} (h : Laid b p rows q) {kv : List (Int × Int)} (hk : (kv.map (·.1)).Nodup) (e : ∀ n, getI kv n = getI (kAll b p rows).wh n) : cntL b p kv = (kAll b p rows).live ∧ sortP kv = sortP (kAll b p rows).wh := by
  have w := h.hb.wf
  have pm := perm_of_get hk w.keys e
  constructor
  · refine List.ext_getElem? fun i => ?_
    have ll := (kAll_len (b := b) (p := p) (rows := rows)).2.2
    by_cases hi : i < b.toNat
    · have e1 : (cntL b p kv)[i]? = some ((cntL b p kv).getD i 0) := by
        rw [List.getD_eq_getElem?_getD, List.getElem?_eq_getElem (by rw [cntL_len]; exact hi)]
        rfl
      have e2 : (kAll b p rows).live[i]? = some ((kAll b p rows).live.getD i 0) := by
        rw [List.getD_eq_getElem?_getD, List.getElem?_eq_getElem (by rw [ll]; exact hi)]
        rfl
      rw [e1, e2, cntL_get hi, w.lv i (by rw [h.qb]; exact hi), h.nk.2, (pm.filter _).length_eq]
    · rw [List.getElem?_eq_none (by rw [cntL_len]; omega), List.getElem?_eq_none (by rw [ll]; omega)]
  · exact sortP_eq ((sortP_perm kv).trans pm) (sortP_pw kv)
def spDueL (K : PySem.W.Frag) : Sp := fun vs H Q _ => ∃ (a : Addr) (b p : Int) (ys : List V) (rows : List Row) (q : Pc), vs = [.ref a, .int b, .int p] ∧ H a = some (.lst ys) ∧ TupL H ys (rows.map r3) ∧ Laid b p rows q ∧ rows.length ≤ 41 ∧ ∀ t H', Same H H' → TellAt H H' t (kAll b p rows) → Q (.ref t) H'
theorem r3_get {H : Hp} {ys : List V} {rows : List Row} (h : TupL H ys (rows.map r3)) {i : Nat} {y : V} (hy : ys[i]? = some y) : ∃ (r : Row) (t : Addr), rows[i]? = some r ∧ y = .ref t ∧ H t = some (.tup [.int r.st, .int r.pg, .int r.nm]) := by
  obtain ⟨e, t, h1, h2, h3⟩ := h.get hy
  rw [List.getElem?_map] at h1
  cases e2 : rows[i]? with
  | none => rw [e2] at h1; cases h1
  | some r =>
    rw [e2] at h1
    cases h1
    exact ⟨r, t, rfl, h2, h3⟩
theorem ok_due (T : Txt K mg) : FO P w K mg base 2 T.a__law_due T.fd__law_due ["_law_rows", "_law_blocks", "_law_pages"] (spDueL K) := by
  have sc := sc__law_due
  refine T.F__law_due.okX sc (fun vs H Q E h => ?_) (fun cdv A outer s H vs Q E hr h => ?_)
  · obtain ⟨_, _, _, _, _, _, rfl, _⟩ := h
    rfl
  obtain ⟨a, b, p, ys, rows, q0, rfl, hn, hT, hL, hl, q⟩ := h
  refine ⟨_, (pss_cons (ps_set (i := 3) sc.nd rfl (by first | exact Or.inl rfl | exact Or.inr rfl) pe_dnewK)
      (pss_cons (ps_set (i := 4) sc.nd rfl (by first | exact Or.inl rfl | exact Or.inr rfl) (pe_op op_uMul (pe_lst (pa_cons pe_int pa_nil)) (pv 1)))
      (pss_cons (ps_set (i := 5) sc.nd rfl (by first | exact Or.inl rfl | exact Or.inr rfl) (pe_op op_uMul (pe_lst (pa_cons pe_int pa_nil)) (pv 1)))
      (pss_cons (ps_set (i := 6) sc.nd rfl (by first | exact Or.inl rfl | exact Or.inr rfl) pe_int)
      (pss_cons (ps_for (passes_of rfl) rfl (pi_list (pv 0)) (pg_tup (by rfl) (pgs_cons (pg_name (i := 7) sc.nd rfl (by first | exact Or.inl rfl | exact Or.inr rfl)) (pgs_cons (pg_name (i := 8) sc.nd rfl (by first | exact Or.inl rfl | exact Or.inr rfl)) (pgs_cons (pg_name (i := 9) sc.nd rfl (by first | exact Or.inl rfl | exact Or.inr rfl)) pgs_nil)))) (pss_cons (ps_dput (hu_of hr) (pv 3) (pv 9) (pv 8) rfl)
      (pss_cons (ps_if (pt_cmpR (op_uEq hr.units) (pe_op op_mod (pv 8) (pv 2)) pe_int (nomark _)) (pss_one (ps_asg (pv 7) (pg_sub (pv 5) (pe_op op_fdivW (pv 8) (pv 2)) set_list))) pss_nil)
      (pss_cons (ps_asg (pe_op op_uAdd (pe_ix ix_seq (pv 4) (pe_op op_fdivW (pv 8) (pv 2)) (fun _ _ => rfl)) pe_int) (pg_sub (pv 4) (pe_op op_fdivW (pv 8) (pv 2)) set_list))
      (pss_one (ps_set (i := 6) sc.nd rfl (by first | exact Or.inl rfl | exact Or.inr rfl) (pv 7)))))))
      (pss_cons (ps_set (i := 10) sc.nd rfl (by first | exact Or.inl rfl | exact Or.inr rfl) (pe_op op_uMul (pe_lst (pa_cons pe_int pa_nil)) (pv 1)))
      (pss_cons (ps_lock (ps_for (passes_of rfl) rfl (pi_values (pv 3)) (pg_name (i := 8) sc.nd rfl (by first | exact Or.inl rfl | exact Or.inr rfl)) (pss_one (ps_asg (pe_op op_uAdd (pe_ix ix_seq (pv 10) (pe_op op_fdivW (pv 8) (pv 2)) (fun _ _ => rfl)) pe_int) (pg_sub (pv 10) (pe_op op_fdivW (pv 8) (pv 2)) set_list)))))
      (pss_one (ps_ret (pe_tup (pa_cons (pe_callB (cr_sortItI (B := 1000) rfl) (by rfl) T.b_sorted bt_sorted (pa_cons (pe_bm0 PySem.F.plainAttrs_dict PySem.F.slot_dict_items PySem.F.type_dict_items mt_itemsI (pv 3)) pa_nil)) (pa_cons (pv 10) (pa_cons (pv 4) (pa_cons (pv 5) (pa_cons (pe_op op_uAdd (pv 6) pe_int) pa_nil))))))))))))))), ?_⟩
  have hb : 2 ≤ b ∧ b ≤ 16 := by have := hL.hb.wf.bk.b; rw [hL.nk.1] at this; exact this
  have hp : 1 ≤ p ∧ p ≤ 16 := by have := hL.hb.wf.bk.p; rw [hL.nk.2] at this; exact this
  have hyl : ys.length = rows.length := by have := hT.1; rw [List.length_map] at this; exact this
  walk_at "begin"
  walk_at "go"
  rename_i p3 H3 hp3 hs3 hn3 p4' H4' hp4' hs4' hn4' p4 H4 hp4 hs4 hn4 p5' H5' hp5' hs5' hn5' p5 H5 hp5 hs5 hn5
  have z0 : (List.replicate b.toNat (V.int 0)) = (List.replicate b.toNat (0 : Int)).map V.int := by rw [List.map_replicate]
  rw [z0] at hn4 hn5
  have s35 : Same H3 H5 := ((hs4'.trans hs4).trans hs5').trans hs5
  have hn3' := s35 _ _ hn3
  have hn4x := hs5 _ _ (hs5' _ _ hn4)
  have s05 : Same H H5 := hs3.trans s35
  have np34 : p3 ≠ p4 := ne_of_none (hs4' _ _ hn3) hp4
  have np35 : p3 ≠ p5 := ne_of_none (hs5' _ _ (hs4 _ _ (hs4' _ _ hn3))) hp5
  have np45 : p4 ≠ p5 := ne_of_none (hs5' _ _ hn4) hp5
  have q4 : H p4 = none := same_none (hs3.trans hs4') hp4
  have q5 : H p5 = none := same_none (((hs3.trans hs4').trans hs4).trans hs5') hp5
  clear hs3 hs4 hs4' hs5 hs5' hn4 hn3 hn4' hn5' z0 s35
  refine x_seq ?_
  walk_at "go"
  refine x_frL (SqL.of (s05 _ _ hn)) (fun i σ H' => ∃ (v7 v8 v9 : Option V) (kv : List (Int × Int)), σ = [some (.ref a), some (.int b), some (.int p), some (.ref p3), some (.ref p4), some (.ref p5), some (.int ((kAll b p (rows.take i)).stamp - 1)), v7, v8, v9, none] ∧ Same H H' ∧ H' p3 = some (.dK (kvI kv)) ∧ H' p4 = some (.lst ((kAll b p (rows.take i)).fil.map V.int)) ∧ H' p5 = some (.lst ((kAll b p (rows.take i)).born.map V.int)) ∧
      (kv.map (·.1)).Nodup ∧ (∀ n, getI kv n = getI (kAll b p (rows.take i)).wh n) ∧ kv.length ≤ i)
    ⟨_, _, _, [], rfl, s05, hn3', hn4x, hn5, List.nodup_nil, fun _ => rfl, Nat.le_refl 0⟩ (fun i σ H' _ h => by obtain ⟨_, _, _, _, _, s, _⟩ := h; exact SqL.of (s _ _ hn)) ?_ ?_
  · intro i y σ H6 hy ⟨v7, v8, v9, kv, hσ, hs6, h3, h4, h5, hkn, hkg, hkl⟩
    subst hσ
    obtain ⟨r, t, e1, rfl, ht⟩ := r3_get hT hy
    have ht6 := hs6 _ _ ht
    obtain ⟨m, hm, d1, d2, d3, d4, d5, d6, g0, g1, _, _⟩ := kAll_row hL e1
    have hil := (List.getElem?_eq_some_iff.mp e1).1
    have hbp : b * p ≤ 16 * 16 := Int.mul_le_mul hb.2 hp.2 (by omega) (by decide)
    have hpg : 0 ≤ r.pg ∧ r.pg < 256 := by omega
    have fl := (kAll_len (b := b) (p := p) (rows := rows.take i)).1
    have bl := (kAll_len (b := b) (p := p) (rows := rows.take i)).2.1
    rw [d3, d4, d5]
    generalize kAll b p (rows.take i) = k at h4 h5 hkg d2 fl bl d6 ⊢
    generalize kAll b p (rows.take (i + 1)) = k' at d6 ⊢
    refine x_gtup3 (SqT.of ht6) ?_
    dsimp only [List.set]
    walk_at "go"
    refine x_dpI (kvs' := kvI (putI kv r.nm r.pg)) h3 putK_I (fun H7 hO7 hI7 => ?_) (by rw [kvI_len]; omega)
    have h47 := hO7.at h4 (nin_of np34.symm)
    have h57 := hO7.at h5 (nin_of np35.symm)
    have s07 : Same H H7 := Off.same1 hs6 hO7 hp3
    clear hO7
    have hmr : 0 ≤ r.pg / p ∧ r.pg / p < b := by omega
    have fl' : ((k.fil.length : Nat) : Int) = b := by omega
    have bl' : ((k.born.length : Nat) : Int) = b := by omega
    have hkn' := put_nodup (n := r.nm) (x := r.pg) hkn
    have hkg' : ∀ n, getI (putI kv r.nm r.pg) n = getI k'.wh n := fun n => by rw [getI_put, d6, hkg]
    have hkl' : (putI kv r.nm r.pg).length ≤ i + 1 := by have := putI_len (ps := kv) (n := r.nm) (x := r.pg); omega
    have hmN : (r.pg / p).toNat = m := by omega
    dsimp only
    refine x_join (fun σ' H' => σ' = [some (.ref a), some (.int b), some (.int p), some (.ref p3), some (.ref p4), some (.ref p5), some (.int (k.stamp - 1)), some (.int r.st), some (.int r.pg), some (.int r.nm), none] ∧ Same H H' ∧ H' p3 = some (.dK (kvI (putI kv r.nm r.pg))) ∧ H' p4 = some (.lst (k.fil.map V.int)) ∧ H' p5 = some (.lst ((if r.pg % p = 0 then k.born.set m r.st else k.born).map V.int))) (fun R hR => ?_) ?_
    · walk_at "go"
      refine x_iteD (fun hz => ?_) (fun hz => ?_)
      · rw [if_pos hz] at hR
        walk_at "go"
        rename_i H8 hO8 hI8
        exact hR _ _ ⟨rfl, Off.same1 s07 hO8 q5, hO8.at hI7 (nin_of np35), hO8.at h47 (nin_of np45), by rw [hI8, hmN, List.map_set]⟩
      · rw [if_neg hz] at hR
        walk_at "go"
        exact hR _ _ ⟨rfl, s07, hI7, h47, h57⟩
    intro σ' H8 ⟨hσ, hs8, j3, j4, j5⟩
    subst hσ
    walk_at "go"
    rename_i H9 hO9 hI9
    refine ⟨some (.int r.st), some (.int r.pg), some (.int r.nm), putI kv r.nm r.pg, ?_, Off.same1 hs8 hO9 q4, hO9.at j3 (nin_of np34), ?_, hO9.at j5 (nin_of np45.symm), hkn', hkg', hkl'⟩
    · rw [show r.st + 1 - 1 = r.st by omega]
    · rw [hI9, hmN, List.map_set]
  · intro σ H6 ⟨v7, v8, v9, kv, hσ, hs6, h3, h4, h5, hkn, hkg, hkl⟩
    subst hσ
    rw [hyl, List.take_length] at h4 h5 hkg
    rw [hyl] at hkl
    rw [hyl, List.take_length]
    obtain ⟨c1, c2⟩ := hL.cnt hkn hkg
    have hbk := hL.hb.wf.bk
    have hkr : ∀ e ∈ kv, 0 ≤ e.2 ∧ e.2 < b * p ∧ 0 ≤ e.1 ∧ e.1 ≤ 64 := fun e he => by
      have h1 := getI_of_mem hkn (n := e.1) (x := e.2) he
      rw [hkg] at h1
      have h2 := hbk.wh _ (getI_mem h1)
      have h3 := hL.hb.wf.rng _ (getI_mem h1)
      rw [hL.nk.1, hL.nk.2] at h2
      exact ⟨h2.1, h2.2, h3.1, h3.2⟩
    walk_at "go"
    rename_i p9 H9 hp9 hs9 hn9 p10 H10 hp10 hs10 hn10
    have z0 : List.replicate b.toNat (V.int 0) = (cntL b p []).map V.int := by
      unfold cntL
      rw [List.map_map]
      refine (List.ext_getElem? fun i => ?_)
      rw [List.getElem?_map, List.getElem?_replicate]
      by_cases hi : i < b.toNat
      · rw [if_pos hi, List.getElem?_range hi]; rfl
      · rw [if_neg hi, List.getElem?_eq_none (by rw [List.length_range]; omega)]; rfl
    rw [z0] at hn10
    have s610 := hs9.trans hs10
    have h3' := s610 _ _ h3
    have h4' := s610 _ _ h4
    have h5' := s610 _ _ h5
    have n10 : H6 p10 = none := same_none hs9 hp10
    have n10' : H p10 = none := same_none hs6 n10
    have np : p10 ≠ p3 := fun z => by rw [z, h3] at n10; cases n10
    have np4 : p4 ≠ p10 := fun z => by rw [← z, h4] at n10; cases n10
    have np5 : p5 ≠ p10 := fun z => by rw [← z, h5] at n10; cases n10
    have s010 := hs6.trans s610
    clear hs9 hs10 hn9 h3 h4 h5 s610 hs6 s05 hn3' hn4x hn5
    refine x_seq ?_
    refine x_lkV h3' (fun od Q' hQ => ?_) (fun od => ⟨fun i σ H' => ∃ (v8 : Option V), σ = [some (.ref a), some (.int b), some (.int p), some (.ref p3), some (.ref p4), some (.ref p5), some (.int ((kAll b p rows).stamp - 1)), v7, v8, v9, some (.ref p10)] ∧ H' p3 = some (.frz od (.dK (kvI kv))) ∧ H' p10 = some (.lst ((cntL b p (kv.take i)).map V.int)) ∧ Off [p3, p10] H10 H',
      ⟨_, rfl, upd_same, by rw [upd_ne np]; exact hn10, Off.upd List.mem_cons_self⟩, fun i σ H' h => by obtain ⟨_, _, h, _⟩ := h; exact h, ?_, ?_⟩)
    · walk_at "go"
      exact hQ
    · intro i k x σ H' hx ⟨v8, hσ, h1, h2, hO⟩
      subst hσ
      unfold kvI at hx
      rw [List.getElem?_map] at hx
      cases he : kv[i]? with
      | none => rw [he] at hx; cases hx
      | some e =>
        rw [he] at hx
        cases hx
        have hkre := hkr e (List.mem_of_getElem? he)
        have hbp : b * p ≤ 16 * 16 := Int.mul_le_mul hb.2 hp.2 (by omega) (by decide)
        have hpg : 0 ≤ e.2 ∧ e.2 < 256 := by omega
        have h0 : 0 ≤ e.2 / p := Int.ediv_nonneg hpg.1 (by omega)
        have h1' : e.2 / p < b := Int.ediv_lt_of_lt_mul (by omega) hkre.2.1
        have cl := cntL_len (b := b) (p := p) (l := kv.take i)
        have cl' : (((cntL b p (kv.take i)).length : Nat) : Int) = b := by omega
        have h2' := h2
        walk_at "go"
        rename_i H11 hO11 hI11
        refine ⟨_, rfl, hO11.at h1 (nin_of np.symm), ?_, fun c o hc e => hO11.at (hO c o hc e) (fun z => hc (List.mem_cons_of_mem _ z))⟩
        rw [hI11, List.take_add_one, he, ← List.map_set]
        show some (HO.lst (List.map V.int _)) = some (HO.lst (List.map V.int (cntL b p (kv.take i ++ [e]))))
        rw [cntL_snoc h0 h1']
    · intro σ H' ⟨v8, hσ, h1, h2, hO⟩
      subst hσ
      rw [kvI_len, List.take_length, c1] at h2
      generalize hH : upd H' p3 (.dK (kvI kv)) = H12
      have h3x : H12 p3 = some (.dK (kvI kv)) := by rw [← hH, upd_same]
      have h10x : H12 p10 = some (.lst ((kAll b p rows).live.map V.int)) := by rw [← hH, upd_ne np]; exact h2
      have hOx : Off [p10] H10 H12 := fun c o hc e => by
        by_cases z : c = p3
        · rw [z, h3x]; rw [z, h3'] at e; exact e
        · rw [← hH, upd_ne z]
          exact hO c o (fun y => by
            rcases List.mem_cons.mp y with y | y
            · exact z y
            · exact hc y) e
      have h4x := hOx.at h4' (nin_of np4)
      have h5x := hOx.at h5' (nin_of np5)
      have s012 : Same H H12 := Off.same1 s010 hOx n10'
      clear hO hOx
      walk_at "go"
      refine x_itemsI h3x fun v1 H13 hv1 hs13 hi13 => ?_
      walk_at "go"
      refine x_sortItI hi13 (hs13 _ _ h3x) (by omega) (fun e he => ?_) fun p1 ys1 H14 hp14 hs14 hn14 hpl => ?_
      · have h1 := hkr e he
        have hbp : b * p ≤ 16 * 16 := Int.mul_le_mul hb.2 hp.2 (by omega) (by decide)
        intro m hm
        simp only [List.mem_cons, List.not_mem_nil, or_false] at hm
        rcases hm with rfl | rfl <;> omega
      rw [c2] at hpl
      have s14 := hs13.trans hs14
      have h4y := s14 _ _ h4x
      have h5y := s14 _ _ h5x
      have h10y := s14 _ _ h10x
      have n14 : H p1 = none := same_none (s012.trans hs13) hp14
      clear hs13 hs14
      walk_at "go"
      rename_i tp H15 htp hs15 hn15
      refine q tp H15 ((s012.trans s14).trans hs15) ⟨p1, p10, p4, p5, ys1, ⟨n14, n10', q4, q5⟩, ?_, hs15 _ _ hn14, hpl.mono (TupS.of hs15), hs15 _ _ h10y, hs15 _ _ h4y, hs15 _ _ h5y⟩
      rw [hn15, show (kAll b p rows).stamp - 1 + 1 = (kAll b p rows).stamp by omega]
/-! ### pages laid by the law -/
structure LaidH (H0 H : Hp) (C : Addr) (rc : Addr) (F : CF) (f t : Addr) (b p : Int) (rows : List Row) (q : Pc) (n : Nat) : Prop where
  off : Off (f :: F.all rc) H0 H
  chip : ChipP C H rc F q
  laid : Laid b p rows q
  fil : H f = some (.lst ((kAll b p rows).fil.map V.int))
  row : ∃ ys, H t = some (.lst ys) ∧ TupL H ys (rows.map r3)
  len : rows.length ≤ n
  nm : ∀ r ∈ rows, r.nm < 64
  st : 1 ≤ (kAll b p rows).stamp ∧ (kAll b p rows).stamp ≤ 1 + 1001 * (n : Int)
def spLaid (T : Txt K mg) : Sp := fun vs H Q _ => ∃ (rc : Addr) (F : CF) (a f : Addr) (ns : List Int) (b p : Int) (q : Pc), vs = [.ref rc, .ref a, .int p, .ref f] ∧ (∃ H0, Same H0 H ∧ SqL K H0 a (ns.map V.int) ∧ ∀ x ∈ f :: F.all rc, H0 x = none) ∧ ns.length ≤ 63 ∧ ChipP T.C_Chip H rc F q ∧ Laid b p [] q ∧ H f = some (.lst ((kAll b p []).fil.map V.int)) ∧ f ∉ F.all rc ∧
  ∀ t rows q' H', H t = none → LaidH H H' T.C_Chip rc F f t b p rows q' 40 → Q (.ref t) H'
theorem ok_laid (T : Txt K mg) : FO P w K mg base 6 T.a__law_laid T.fd__law_laid ["_law_chip", "_law_script", "_law_pages", "_law_filled"] (spLaid T) := by
  have sc := sc__law_laid
  refine T.F__law_laid.okX sc (fun vs H Q E h => ?_) (fun cdv A outer s H vs Q E hr h => ?_)
  · obtain ⟨_, _, _, _, _, _, _, _, rfl, _⟩ := h
    rfl
  obtain ⟨rc, F, a, f, ns, b, p, q0, rfl, ⟨H0, hs0, hS0, hF0⟩, hl, hC, hL, hf, nf, q⟩ := h
  refine ⟨_, (pss_cons (ps_set (i := 4) sc.nd rfl (by first | exact Or.inl rfl | exact Or.inr rfl) (pe_lst pa_nil))
      (pss_cons (ps_set (i := 5) sc.nd rfl (by first | exact Or.inl rfl | exact Or.inr rfl) pe_int)
      (pss_cons (ps_set (i := 6) sc.nd rfl (by first | exact Or.inl rfl | exact Or.inr rfl) (pe_op op_uAdd pe_int (pe_op op_mod (pe_callS (ok_cell_at T) (hr.mono (by decide)) (by rfl) T.g__law_cell_at T.k__law_cell_at T.bd__law_cell_at (passAt (takes_of rfl rfl rfl rfl)) (pa_cons (pv 1) (pa_cons pe_int pa_nil))) pe_int)))
      (pss_cons (ps_for (passes_of rfl) rfl (pi_range2 (by rfl) T.b_range (pa_cons pe_int (pa_cons (pe_callB (cr_umin) (by rfl) T.b_min bt_min (pa_cons (pe_callB (cr_ulen) (by rfl) T.b_len bt_len (pa_cons (pv 1) pa_nil)) (pa_cons pe_int pa_nil))) pa_nil))) (pg_name (i := 7) sc.nd rfl (by first | exact Or.inl rfl | exact Or.inr rfl)) (pss_cons (ps_set (i := 8) sc.nd rfl (by first | exact Or.inl rfl | exact Or.inr rfl) (pe_op op_mod (pe_ix ix_seq (pv 1) (pv 7) (fun _ _ => rfl)) (pe_callB (cr_ulen) (by rfl) T.b_len bt_len (pa_cons (pv 3) pa_nil))))
      (pss_one (ps_if (pt_cmpR op_uLt (pe_ix ix_seq (pv 3) (pv 8) (fun _ _ => rfl)) (pv 2) (nomark _)) (pss_cons (ps_set (i := 5) sc.nd rfl (by first | exact Or.inl rfl | exact Or.inr rfl) (pe_op op_uAdd (pe_op op_uAdd (pv 5) pe_int) (pe_op op_mod (pe_callS (ok_mix T) (hr.mono (by decide)) (by rfl) T.g__law_mix T.k__law_mix T.bd__law_mix (passAt (takes_of rfl rfl rfl rfl)) (pa_cons (pe_ix ix_seq (pv 1) (pv 7) (fun _ _ => rfl)) (pa_cons (pv 7) pa_nil))) (pe_ix ix_seq (pe_lst (pa_cons pe_int (pa_cons pe_int (pa_cons pe_int pa_nil)))) (pe_op op_mod (pe_callS (ok_cell_at T) (hr.mono (by decide)) (by rfl) T.g__law_cell_at T.k__law_cell_at T.bd__law_cell_at (passAt (takes_of rfl rfl rfl rfl)) (pa_cons (pv 1) (pa_cons pe_int pa_nil))) pe_int) (fun _ _ => rfl)))))
      (pss_cons (ps_set (i := 9) sc.nd rfl (by first | exact Or.inl rfl | exact Or.inr rfl) (pe_op op_uMul (pe_op op_mod (pe_op op_fdivW (pe_ix ix_seq (pv 1) (pv 7) (fun _ _ => rfl)) pe_int) pe_int) (pv 6)))
      (pss_cons (ps_set (i := 10) sc.nd rfl (by first | exact Or.inl rfl | exact Or.inr rfl) (pe_op op_uAdd (pe_op op_uMul (pv 8) (pv 2)) (pe_ix ix_seq (pv 3) (pv 8) (fun _ _ => rfl))))
      (pss_cons (ps_expr (pe_methD (k := 4) (pv 0) (hr.mono (by decide)) (passAt (takes_of rfl rfl rfl rfl)) (pa_cons (pv 10) (pa_cons (pe_tup (pa_cons (pe_callS (ok_mark_of T) (hr.mono (by decide)) (by rfl) T.g_mark_of T.k_mark_of T.bd_mark_of (passAt (takes_of rfl rfl rfl rfl)) (pa_cons (pv 5) (pa_cons (pv 9) pa_nil))) (pa_cons (pe_op op_mod (pe_ix ix_seq (pv 1) (pv 7) (fun _ _ => rfl)) (pe_op op_pow pe_int pe_int)) pa_nil))) pa_nil))))
      (pss_cons (ps_asg (pe_op op_uAdd (pe_ix ix_seq (pv 3) (pv 8) (fun _ _ => rfl)) pe_int) (pg_sub (pv 3) (pv 8) set_list))
      (pss_one (ps_expr (pe_bm PySem.F.plainAttrs_list PySem.F.slot_list_append PySem.F.type_list_append mt_append (pv 4) (pa_cons (pe_tup (pa_cons (pv 5) (pa_cons (pv 10) (pa_cons (pv 9) pa_nil)))) pa_nil))))))))) pss_nil))))
      (pss_one (ps_ret (pv 4))))))), ?_⟩
  have hS := hs0.seq hS0
  have hb : 2 ≤ b ∧ b ≤ 16 := by have := hL.hb.wf.bk.b; rw [hL.nk.1] at this; exact this
  have hp : 1 ≤ p ∧ p ≤ 16 := by have := hL.hb.wf.bk.p; rw [hL.nk.2] at this; exact this
  have c3 : 0 ≤ cl ns 2 % 3 ∧ cl ns 2 % 3 < 3 := by omega
  have c15 : 0 ≤ cl ns 2 % 15 ∧ cl ns 2 % 15 < 15 := by omega
  obtain ⟨z, ez, hz⟩ : ∃ z : Int, [V.int 1, V.int 2, V.int 1000].getD (cl ns 2 % 3).toNat V.non = V.int z ∧ 1 ≤ z ∧ z ≤ 1000 := by
    generalize cl ns 2 % 3 = x at c3
    have : x = 0 ∨ x = 1 ∨ x = 2 := by omega
    rcases this with rfl | rfl | rfl
    · exact ⟨1, rfl, by decide, by decide⟩
    · exact ⟨2, rfl, by decide, by decide⟩
    · exact ⟨1000, rfl, by decide, by decide⟩
  walk_at "begin"
  walk_at "go"
  rename_i t H1 ht hs1 hn1
  have tf : t ≠ f := (ne_of_none hf ht).symm
  have tF : t ∉ F.all rc := hC.fresh ht
  have hl2 : (if (43 : Int) < ((ns.length : Nat) : Int) then (43 : Int) else (ns.length : Int)) ≤ 43 ∧ (if (43 : Int) < ((ns.length : Nat) : Int) then (43 : Int) else (ns.length : Int)) ≤ ns.length ∧ 0 ≤ (if (43 : Int) < ((ns.length : Nat) : Int) then (43 : Int) else (ns.length : Int)) := by split <;> omega
  refine x_seq ?_
  walk_at "go"
  generalize (if (43 : Int) < ((ns.length : Nat) : Int) then (43 : Int) else (ns.length : Int)) = L at hl2 ⊢
  refine x_frR2 (by omega) (fun i σ H' => ∃ (v7 v8 v9 v10 : Option V) (rows : List Row) (q' : Pc), σ = [some (.ref rc), some (.ref a), some (.int p), some (.ref f), some (.ref t), some (.int ((kAll b p rows).stamp - 1)), some (.int (1 + cl ns 2 % 15)), v7, v8, v9, v10] ∧ LaidH H H' T.C_Chip rc F f t b p rows q' i)
    ⟨_, _, _, _, [], q0, rfl, ⟨Off.of hs1, hC.mono hs1, hL, hs1 _ _ hf, ⟨[], hn1, TupL.nil⟩, Nat.le_refl 0, fun r h => (by cases h), by show (1 : Int) ≤ 1 ∧ (1 : Int) ≤ 1 + 1001 * 0; decide⟩⟩ ?_ ?_
  · intro i σ H2 hi ⟨v7, v8, v9, v10, rows, q', hσ, hH⟩
    subst hσ
    have hS2 := (Off.same hs0 hH.off hF0).seq hS0
    obtain ⟨hO, hC2, hL2, hf2, ⟨ys, hn2, hT2⟩, hlen, hnm, hst⟩ := hH
    have hk' : 0 ≤ 3 + (i : Int) ∧ 3 + (i : Int) < ns.length := by omega
    have fl := (kAll_len (b := b) (p := p) (rows := rows)).1
    have flI : (((kAll b p rows).fil.length : Nat) : Int) = b := by omega
    have flM : 0 < (((kAll b p rows).fil.length : Nat) : Int) := by omega
    have hbm : 0 ≤ ns.getD (3 + (i : Int)).toNat 0 % (((kAll b p rows).fil.length : Nat) : Int) ∧ ns.getD (3 + (i : Int)).toNat 0 % (((kAll b p rows).fil.length : Nat) : Int) < (((kAll b p rows).fil.length : Nat) : Int) := ⟨Int.emod_nonneg _ (by omega), Int.emod_lt_of_pos _ flM⟩
    walk_at "go"
    generalize hB0 : ns.getD (3 + (i : Int)).toNat 0 % (((kAll b p rows).fil.length : Nat) : Int) = B0 at hbm ⊢
    obtain ⟨m, rfl⟩ : ∃ m : Nat, B0 = (m : Int) := Int.eq_ofNat_of_zero_le hbm.1
    rw [Int.toNat_natCast]
    have hm : m < b.toNat := by omega
    refine x_iteD (fun hlt => ?_) (fun hge => ?_)
    rotate_left
    · walk_at "go"
      exact ⟨_, _, _, _, rows, q', rfl, ⟨hO, hC2, hL2, hf2, ⟨ys, hn2, hT2⟩, Nat.le_succ_of_le hlen, hnm, hst.1, by omega⟩⟩
    have hmx := mix_rng (c := ns.getD (3 + (i : Int)).toNat 0) (k := 3 + (i : Int))
    walk_at "go"
    rw [ez]
    have hmz : 0 ≤ mixI (ns.getD (3 + (i : Int)).toNat 0) (3 + (i : Int)) % z ∧ mixI (ns.getD (3 + (i : Int)).toNat 0) (3 + (i : Int)) % z < z := ⟨Int.emod_nonneg _ (by omega), Int.emod_lt_of_pos _ (by omega)⟩
    rename_i lp H3 hlp hs3 hn3
    have hC3 := hC2.mono hs3
    have hf3 := hs3 _ _ hf2
    have hn3' := hs3 _ _ hn2
    have hT3 := hT2.mono (TupS.of hs3)
    have hS3 := hs3.seq hS2
    have hO3 := hO.trans (Off.of hs3)
    clear hC2 hf2 hT2 hS2 hO
    walk_at "s"
    generalize mixI (ns.getD (3 + (i : Int)).toNat 0) (3 + (i : Int)) % z = mz at hmz ⊢
    have e5 : 0 ≤ ns.getD (3 + (i : Int)).toNat 0 / 7 % 5 ∧ ns.getD (3 + (i : Int)).toNat 0 / 7 % 5 ≤ 4 := by omega
    have e60 : 0 ≤ ns.getD (3 + (i : Int)).toNat 0 / 7 % 5 * (1 + cl ns 2 % 15) ∧ ns.getD (3 + (i : Int)).toNat 0 / 7 % 5 * (1 + cl ns 2 % 15) ≤ 4 * 15 := ⟨Int.mul_nonneg e5.1 (by omega), Int.mul_le_mul e5.2 (by omega) (by omega) (by decide)⟩
    have hst5 : 1 ≤ (kAll b p rows).stamp ∧ (kAll b p rows).stamp ≤ 100000 := by omega
    have hvr : 0 ≤ ns.getD (3 + (i : Int)).toNat 0 % 10 ^ 30 ∧ ns.getD (3 + (i : Int)).toNat 0 % 10 ^ 30 < 10 ^ 30 := ⟨Int.emod_nonneg _ (by decide), Int.emod_lt_of_pos _ (by decide)⟩
    have hkF : (10 : Int) ^ 30 = 1000000000000000000000000000000 := by decide
    have hmp : 0 ≤ (m : Int) * p ∧ (m : Int) * p ≤ 16 * 16 := ⟨Int.mul_nonneg (by omega) (by omega), Int.mul_le_mul (by omega) hp.2 (by omega) (by decide)⟩
    have hm0 : 0 ≤ (m : Int) ∧ (m : Int) < (((kAll b p rows).fil.length : Nat) : Int) := by omega
    have hf0 := (hL2.hb.wf.fil m).1
    have hmk : 0 ≤ (kAll b p rows).stamp - 1 + 1 + mz ∧ (kAll b p rows).stamp - 1 + 1 + mz < 10 ^ 45 ∧ 0 ≤ ns.getD (3 + (i : Int)).toNat 0 / 7 % 5 * (1 + cl ns 2 % 15) ∧ ns.getD (3 + (i : Int)).toNat 0 / 7 % 5 * (1 + cl ns 2 % 15) < 128 := ⟨by omega, by omega, e60.1, by omega⟩
    obtain ⟨st, hCc, hstf⟩ := hC3
    have hC3 : ChipP T.C_Chip H3 rc F q' := ⟨st, hCc, hstf⟩
    walk_at "go"
    refine x_mPut hCc ?_
    walk_at "go"
    rename_i tp H4 htp hs4 hn4
    rw [Int.toNat_natCast]
    generalize ns.getD (3 + (i : Int)).toNat 0 / 7 % 5 * (1 + cl ns 2 % 15) = nm at hn4 e60 hmk ⊢
    generalize ns.getD (3 + (i : Int)).toNat 0 % 10 ^ 30 = vv at hn4 hvr ⊢
    have ex : (kAll b p rows).stamp - 1 + 1 + mz = (kAll b p rows).stamp + mz := by omega
    rw [ex] at hn4 ⊢
    obtain ⟨pz1, pz2⟩ := hL2.put (x := (kAll b p rows).stamp + mz) (n := nm) (v := vv) hm hlt (by omega) (by omega) (by omega) ⟨hvr.1, hvr.2, fun z => by omega⟩
    have hst' := hst
    obtain ⟨⟨pg0, pg1⟩, pgn, pgb⟩ := hL2.hb.page (m := m) (by rw [hL2.qb]; exact hm) (by rw [hL2.qp]; exact hlt)
    have hfr := (hL2.hb.pl (m := m) (x := (kAll b p rows).stamp) (n := 0) (v := 0) (by rw [hL2.qb]; exact hm) (by rw [hL2.qp]; exact hlt) (Int.le_refl _) (by decide) (by decide)).free
    rw [← pgn] at hfr
    have hqp := hL2.qp
    have hqb := hL2.qb
    rw [hqp] at pg0 pg1 pgb hfr
    refine putQ_put ⟨rc, F, q', _, tp, (My.mk ((kAll b p rows).stamp + mz) nm, vv), rfl, hC3.mono hs4, hn4, by have := hL2.lg; omega, pg0, by rw [hqp]; exact pg1, hL2.hb.fn.br _, ?_, hL2.hb.wf.ctl, fun H5 hO5 hC5 => ?_⟩
    · unfold wrC at hfr
      exact Classical.byContradiction hfr
    rw [pz1]
    dsimp only
    have hf5 : H5 f = some (.lst ((kAll b p rows).fil.map V.int)) := hO5.at (hs4 _ _ hf3) nf
    have ht5 : H5 t = some (.lst ys) := hO5.at (hs4 _ _ hn3') tF
    have tt5 : TupS H4 H5 := tups_of (hC3.mono hs4).there hO5
    have hT5 := (hT3.mono (TupS.of hs4)).mono tt5
    have hO35 : Off (f :: F.all rc) H H5 := hO3.trans ((Off.of hs4).trans (hO5.sub fun x hx => List.mem_cons_of_mem _ hx))
    have hyl5 : ys.length < sizeLine := Nat.lt_of_le_of_lt (show _ ≤ 1000 by have := hT5.1; rw [List.length_map] at this; omega) (by decide)
    clear hO5
    walk_at "go"
    rename_i H6 hO6 hI6 t7 H7 ht7 hs7 hn7 H8 hO8 hI8
    rw [Int.toNat_natCast] at hI6
    obtain ⟨re1, re2, re3, re4⟩ := note_fil_at (b := b) (k := kAll b p rows) (r := ⟨(kAll b p rows).stamp + mz, (m : Int) * p + (kAll b p rows).fil.getD m 0, nm, vv⟩) (m := m) ⟨hm, hf0, hlt, rfl, by show _ ≤ (kAll b p rows).stamp + mz; omega, ⟨hmk.2.2.1, by show nm ≤ 64; omega⟩⟩ hL2.nk.2 flI
    have f6 : H6 f = some (.lst ((noteR (kAll b p rows) ⟨(kAll b p rows).stamp + mz, (m : Int) * p + (kAll b p rows).fil.getD m 0, nm, vv⟩).fil.map V.int)) := by rw [hI6, re1, List.map_set]
    rw [← kAll_snoc] at f6 re4
    have ne78 : t7 ≠ t := fun y => by
      have := hO6.at ht5 (nin_of tf)
      rw [← y, ht7] at this
      cases this
    have off68 : Off (f :: F.all rc) H H8 := by
      have o1 : Off (f :: F.all rc) H5 H6 := hO6.sub fun x hx => by rw [List.mem_singleton.mp hx]; exact List.mem_cons_self
      have o2 : Off (f :: F.all rc) H H7 := hO35.trans (o1.trans (Off.of hs7))
      exact fun c o hc e => hO8.at (o2 c o hc e) (fun z => by rw [List.mem_singleton.mp z, ht] at e; cases e)
    have fF : ∀ x ∈ F.all rc, x ∉ [f] := fun x hx => nin_of (fun y => nf (y ▸ hx))
    have tF' : ∀ x ∈ F.all rc, x ∉ [t] := fun x hx => nin_of (fun y => tF (y ▸ hx))
    have tt56 : TupS H5 H6 := fun c xs e => hO6.at e (nin_of (fun y => by rw [y, hf5] at e; cases e))
    have tt78 : TupS H7 H8 := fun c xs e => hO8.at e (nin_of (fun y => by
      have := hs7 _ _ (hO6.at ht5 (nin_of tf))
      rw [y, this] at e
      cases e))
    have tt58 : TupS H5 H8 := (tt56.trans (TupS.of hs7)).trans tt78
    have hC8 : ChipP T.C_Chip H8 rc F (q'.putP ((m : Int) * p + (kAll b p rows).fil.getD m 0) (My.mk ((kAll b p rows).stamp + mz) nm, vv)).2 := ((hC5.off hO6 fF tt56).mono hs7).off hO8 tF' tt78
    have e1 : (kAll b p (rows ++ [⟨(kAll b p rows).stamp + mz, (m : Int) * p + (kAll b p rows).fil.getD m 0, nm, vv⟩])).stamp - 1 = (kAll b p rows).stamp + mz := by rw [re4]; exact Int.add_sub_cancel _ _
    refine ⟨_, _, _, _, rows ++ [⟨(kAll b p rows).stamp + mz, (m : Int) * p + (kAll b p rows).fil.getD m 0, nm, vv⟩], _, by rw [e1], ⟨off68, hC8, pz2, hO8.at (hs7 _ _ f6) (nin_of tf.symm), ⟨_, hI8, ?_⟩, by rw [List.length_append, List.length_singleton]; exact Nat.succ_le_succ hlen, fun r hr => ?_, ?_⟩⟩
    · rw [List.map_append]
      exact (hT5.mono tt58).snoc ⟨t7, rfl, hO8.at hn7 (nin_of ne78)⟩
    · rcases List.mem_append.mp hr with hr | hr
      · exact hnm r hr
      · rw [List.mem_singleton.mp hr]
        show nm < 64
        omega
    · rw [re4]
      show 1 ≤ (kAll b p rows).stamp + mz + 1 ∧ (kAll b p rows).stamp + mz + 1 ≤ _
      omega
  · intro σ H2 ⟨v7, v8, v9, v10, rows, q', hσ, hH⟩
    subst hσ
    walk_at "go"
    refine q t rows q' H2 ht ⟨hH.off, hH.chip, hH.laid, hH.fil, hH.row, by have := hH.len; omega, hH.nm, hH.st.1, by have := hH.st.2; omega⟩
theorem x_cinitM {T : Txt K mg} {H H1 : Hp} {Q : VK} {E : XK} {x dx : Addr} {b p m : Int} (hB : 2 ≤ b ∧ b ≤ 16) (hP : 1 ≤ p ∧ p ≤ 16) (hM : 0 ≤ m ∧ m ≤ 1000000) (hx : H x = none) (hs : Same H H1) (hn : H1 x = some (.ins T.C_Chip dx []))
    (q : ∀ F H', Same H H' → (∀ a ∈ F.all x, H a = none) → ChipAt T.C_Chip H' x F (Cs.new b p m (List.replicate b.toNat .non)) → Q .non H') : spCInit T [.ref x, .int b, .int p, .int m, .non] H1 Q E := by
  refine ⟨x, dx, _, _, _, _, some b, some p, some m, [], rfl, hn, .int b, .int p, .int m, .inl ⟨rfl, rfl⟩, fun hg l hl F H' hO hF hC => ?_, fun hno => ?_⟩
  · cases hl
    refine q F H' (Off.same1 hs hO hx) (fun a ha => ?_) hC
    by_cases e : a = x
    · rw [e]; exact hx
    · exact same_none hs (hF a ha e)
  · exfalso
    rcases hno with hno | hno
    · unfold chipGood inB at hno
      have e1 : decide (2 ≤ b ∧ b ≤ 16) = true := decide_eq_true hB
      have e2 : decide (1 ≤ p ∧ p ≤ 16) = true := decide_eq_true hP
      have e3 : decide (0 ≤ m ∧ m ≤ 1000000) = true := decide_eq_true hM
      dsimp only at hno
      rw [e1, e2, e3] at hno
      cases hno
    · cases hno
theorem x_laidBook {T : Txt K mg} {H : Hp} {Q : VK} {E : XK} {x : Addr} {F : CF} {q : Pc} {b p : Int} {rows : List Row} (hC : ChipP T.C_Chip H x F q) (hL : Laid b p rows q) (hn : ∀ r ∈ rows, r.nm < 64) (hs : (kAll b p rows).stamp < 10 ^ 39) (hl : rows.length < 64)
    (k : ∀ rb fb H', Same H H' → BookAt T.C_Book H' rb fb (kAll b p rows) → Q (.ref rb) H') : spBookOf T [.ref x] H Q E := by
  refine x_bookOf2 (s := ⟨q, kAll b p rows, [], .by fun _ _ _ _ => false⟩) hC hL.hb.wf (hL.rb hn) hs (by have := hL.few; show (rowsC q.ct).length < 64; omega) (fun z => ?_) fun _ rb fb H7 hs7 hF7 hB7 => k rb fb H7 hs7 hB7
  rw [show (⟨q, kAll b p rows, [], .by fun _ _ _ _ => false⟩ : St).q.dark = q.dark from rfl, hL.hb.fn.dark] at z
  cases z
theorem told_lens {b p : Int} {rows : List Row} (hl : rows.length < 64) (hb : b ≤ 16) : (sortP (kAll b p rows).wh).length ≤ 1000 ∧ (kAll b p rows).live.length ≤ 1000 ∧ (kAll b p rows).fil.length ≤ 1000 ∧ (kAll b p rows).born.length ≤ 1000 := by
  have hwl2 := kAll_whl (b := b) (p := p) (rows := rows)
  have hls := kAll_len (b := b) (p := p) (rows := rows)
  have := (sortP_perm (kAll b p rows).wh).length_eq
  omega
def spLaw (K : PySem.W.Frag) : Sp := fun vs H Q _ => ∃ (a : Addr) (ns : List Int), vs = [.ref a] ∧ SqL K H a (ns.map V.int) ∧ ns.length ≤ 63 ∧ ∀ H', Q (.bl true) H'
theorem ok_law (T : Txt K mg) : FO P w K mg base 12 T.a_law T.fd_law ["_law_script"] (spLaw K) := by
  have sc := sc_law
  refine T.F_law.okX sc (fun vs H Q E h => ?_) (fun cdv A outer s H vs Q E hr h => ?_)
  · obtain ⟨a, ns, rfl, _⟩ := h
    rfl
  obtain ⟨a, ns, rfl, hS, hl, q⟩ := h
  refine ⟨_, (pss_cons (ps_set (i := 1) sc.nd rfl (by first | exact Or.inl rfl | exact Or.inr rfl) (pe_op op_uAdd pe_int (pe_op op_mod (pe_callS (ok_cell_at T) (hr.mono (by decide)) (by rfl) T.g__law_cell_at T.k__law_cell_at T.bd__law_cell_at (passAt (takes_of rfl rfl rfl rfl)) (pa_cons (pv 0) (pa_cons pe_int pa_nil))) pe_int)))
      (pss_cons (ps_set (i := 2) sc.nd rfl (by first | exact Or.inl rfl | exact Or.inr rfl) (pe_op op_uAdd pe_int (pe_op op_mod (pe_callS (ok_cell_at T) (hr.mono (by decide)) (by rfl) T.g__law_cell_at T.k__law_cell_at T.bd__law_cell_at (passAt (takes_of rfl rfl rfl rfl)) (pa_cons (pv 0) (pa_cons pe_int pa_nil))) pe_int)))
      (pss_cons (ps_if (pt_cmpR (op_uEq hr.units) (pe_op op_mod (pe_op op_fdivW (pe_callS (ok_cell_at T) (hr.mono (by decide)) (by rfl) T.g__law_cell_at T.k__law_cell_at T.bd__law_cell_at (passAt (takes_of rfl rfl rfl rfl)) (pa_cons (pv 0) (pa_cons pe_int pa_nil))) pe_int) pe_int) pe_int (nomark _)) (pss_cons (ps_set (i := 1) sc.nd rfl (by first | exact Or.inl rfl | exact Or.inr rfl) pe_int)
      (pss_one (ps_set (i := 2) sc.nd rfl (by first | exact Or.inl rfl | exact Or.inr rfl) pe_int))) pss_nil)
      (pss_cons (ps_set (i := 3) sc.nd rfl (by first | exact Or.inl rfl | exact Or.inr rfl) (pe_op op_mod (pe_op op_fdivW (pe_callS (ok_cell_at T) (hr.mono (by decide)) (by rfl) T.g__law_cell_at T.k__law_cell_at T.bd__law_cell_at (passAt (takes_of rfl rfl rfl rfl)) (pa_cons (pv 0) (pa_cons pe_int pa_nil))) pe_int) (pv 1)))
      (pss_cons (ps_set (i := 4) sc.nd rfl (by first | exact Or.inl rfl | exact Or.inr rfl) (pe_mkS T.mk_Chip (ok_Chip_init T) (hr.mono (by decide)) (by rfl) T.g_Chip T.bd1_Chip_init T.dv1_Chip_init (passAt (takes_of rfl rfl rfl rfl)) (pa_cons (pv 1) (pa_cons (pv 2) (pa_cons pe_int pa_nil)))))
      (pss_cons (ps_set (i := 5) sc.nd rfl (by first | exact Or.inl rfl | exact Or.inr rfl) (pe_op op_uMul (pe_lst (pa_cons pe_int pa_nil)) (pv 1)))
      (pss_cons (ps_set (i := 6) sc.nd rfl (by first | exact Or.inl rfl | exact Or.inr rfl) (pe_callS (ok_laid T) (hr.mono (by decide)) (by rfl) T.g__law_laid T.k__law_laid T.bd__law_laid (passAt (takes_of rfl rfl rfl rfl)) (pa_cons (pv 4) (pa_cons (pv 0) (pa_cons (pv 2) (pa_cons (pv 5) pa_nil))))))
      (pss_cons (ps_set (i := 7) sc.nd rfl (by first | exact Or.inl rfl | exact Or.inr rfl) (pe_callS (ok_due T) (hr.mono (by decide)) (by rfl) T.g__law_due T.k__law_due T.bd__law_due (passAt (takes_of rfl rfl rfl rfl)) (pa_cons (pv 6) (pa_cons (pv 1) (pa_cons (pv 2) pa_nil)))))
      (pss_cons (ps_set (i := 8) sc.nd rfl (by first | exact Or.inl rfl | exact Or.inr rfl) (pe_methD0 (k := 1) (pe_callS (ok_book_of T) (hr.mono (by decide)) (by rfl) T.g_book_of T.k_book_of T.bd_book_of (passAt (takes_of rfl rfl rfl rfl)) (pa_cons (pv 4) pa_nil)) (hr.mono (by decide)) (passAt (takes_of rfl rfl rfl rfl))))
      (pss_cons (ps_if (PW.pt (pw_or (pt_not (pt_truth (pe_callS (ok_told T) (hr.mono (by decide)) (by rfl) T.g__law_told T.k__law_told T.bd__law_told (passAt (takes_of rfl rfl rfl rfl)) (pa_cons (pv 8) (pa_cons (pv 7) pa_nil))) (by intro _; rfl))) (pw_or1 (pt_not (pt_truth (pe_callS (ok_told T) (hr.mono (by decide)) (by rfl) T.g__law_told T.k__law_told T.bd__law_told (passAt (takes_of rfl rfl rfl rfl)) (pa_cons (pe_methD0 (k := 1) (pe_callS (ok_book_of T) (hr.mono (by decide)) (by rfl) T.g_book_of T.k_book_of T.bd_book_of (passAt (takes_of rfl rfl rfl rfl)) (pa_cons (pv 4) pa_nil)) (hr.mono (by decide)) (passAt (takes_of rfl rfl rfl rfl))) (pa_cons (pv 7) pa_nil))) (by intro _; rfl)))))) (pss_one (ps_ret pe_bl)) pss_nil)
      (pss_cons (ps_if (pt_cmpR op_uLt (pe_ix ix_seq (pv 5) (pv 3) (fun _ _ => rfl)) (pv 2) (nomark _)) (pss_cons (ps_set (i := 9) sc.nd rfl (by first | exact Or.inl rfl | exact Or.inr rfl) (pe_op op_uAdd (pe_op op_uMul (pv 3) (pv 2)) (pe_ix ix_seq (pv 5) (pv 3) (fun _ _ => rfl))))
      (pss_cons (ps_expr (pe_methD (k := 4) (pv 4) (hr.mono (by decide)) (passAt (takes_of rfl rfl rfl rfl)) (pa_cons (pv 9) (pa_cons (pe_tup (pa_cons (pe_callS (ok_mark_of T) (hr.mono (by decide)) (by rfl) T.g_mark_of T.k_mark_of T.bd_mark_of (passAt (takes_of rfl rfl rfl rfl)) (pa_cons (pe_ix ix_seq (pv 7) pe_int (fun _ _ => rfl)) (pa_cons pe_int pa_nil))) (pa_cons pe_int pa_nil))) pa_nil))))
      (pss_one (ps_expr (pe_bm PySem.F.plainAttrs_list PySem.F.slot_list_append PySem.F.type_list_append mt_append (pv 6) (pa_cons (pe_tup (pa_cons (pe_ix ix_seq (pv 7) pe_int (fun _ _ => rfl)) (pa_cons (pv 9) (pa_cons pe_int pa_nil)))) pa_nil)))))) pss_nil)
      (pss_one (ps_ret (pe_andT (pe_callS (ok_told T) (hr.mono (by decide)) (by rfl) T.g__law_told T.k__law_told T.bd__law_told (passAt (takes_of rfl rfl rfl rfl)) (pa_cons (pv 8) (pa_cons (pv 7) pa_nil))) (pe_one (pe_callS (ok_told T) (hr.mono (by decide)) (by rfl) T.g__law_told T.k__law_told T.bd__law_told (passAt (takes_of rfl rfl rfl rfl)) (pa_cons (pe_methD0 (k := 1) (pe_callS (ok_book_of T) (hr.mono (by decide)) (by rfl) T.g_book_of T.k_book_of T.bd_book_of (passAt (takes_of rfl rfl rfl rfl)) (pa_cons (pv 4) pa_nil)) (hr.mono (by decide)) (passAt (takes_of rfl rfl rfl rfl))) (pa_cons (pe_callS (ok_due T) (hr.mono (by decide)) (by rfl) T.g__law_due T.k__law_due T.bd__law_due (passAt (takes_of rfl rfl rfl rfl)) (pa_cons (pv 6) (pa_cons (pv 1) (pa_cons (pv 2) pa_nil)))) pa_nil)))))))))))))))))), ?_⟩
  walk_at "begin"
  walk_at "go"
  refine x_join (fun σ' H' => H' = H ∧ ∃ b p : Int, (2 ≤ b ∧ b ≤ 16) ∧ (1 ≤ p ∧ p ≤ 16) ∧ σ' = [some (.ref a), some (.int b), some (.int p), none, none, none, none, none, none, none]) (fun R hR => ?_) ?_
  · walk_at "go"
    refine x_iteD (fun _ => ?_) (fun _ => ?_)
    · walk_at "go"
      exact hR _ _ ⟨rfl, 16, 16, by decide, by decide, rfl⟩
    · walk_at "go"
      exact hR _ _ ⟨rfl, _, _, by omega, by omega, rfl⟩
  intro σ' H' ⟨eH, b, p, hb, hp, hσ⟩
  subst hσ eH
  have hbb : 0 ≤ cl ns 1 / 5 % b ∧ cl ns 1 / 5 % b < b := ⟨Int.emod_nonneg _ (by omega), Int.emod_lt_of_pos _ (by omega)⟩
  have hb0 : 0 < b := by omega
  walk_at "go"
  generalize cl ns 1 / 5 % b = sk at hbb ⊢
  rename_i x dx Hm hx hdx hne hsm hnm hdd
  refine x_cinitM hb hp (by decide) hx hsm hnm fun F H3 hs3 hF hC => ⟨rfl, ?_⟩
  clear hsm hnm hdd hne hdx
  walk_at "go"
  rename_i f0 H4' hf0 hs4' hn4' f H4 hf hs4 hn4
  have z0 : (List.replicate b.toNat (V.int 0)) = (kAll b p []).fil.map V.int := by show _ = (List.replicate b.toNat (0 : Int)).map V.int; rw [List.map_replicate]
  rw [z0] at hn4
  have hC4 := (hC.mono hs4').mono hs4
  have s04 : Same H' H4 := (hs3.trans hs4').trans hs4
  have nf0 : H' f = none := same_none (hs3.trans hs4') hf
  have fx : f ∉ F.all x := (chipP_new (hC.mono hs4')).fresh hf
  have hFf : ∀ y ∈ f :: F.all x, H' y = none := fun y hy => by
    rcases List.mem_cons.mp hy with rfl | hy
    · exact nf0
    · exact hF y hy
  have hC4P := chipP_new hC4
  refine ⟨x, F, a, f, ns, b, p, _, rfl, ⟨H', s04, hS, hFf⟩, hl, hC4P, Laid.new hb hp, hn4, fx, fun t rows q5 H5 ht hH5 => ?_⟩
  obtain ⟨hO5, hC5, hL5, hf5, ⟨ys, hn5, hT5⟩, hlen5, hnm5, hst5⟩ := hH5
  have s05 : Same H' H5 := Off.same s04 hO5 hFf
  have txF : t ∉ F.all x := hC4P.fresh ht
  clear hO5 hC hC4 hC4P hn4 hs3 hs4 hs4' z0 hn4'
  walk_at "go"
  refine ⟨t, b, p, ys, rows, q5, rfl, hn5, hT5, hL5, by omega, fun d H6 hs6 hd6 => ?_⟩
  walk_at "go"
  have hsb : (kAll b p rows).stamp < 10 ^ 39 := by omega
  refine x_laidBook (hC5.mono hs6) hL5 hnm5 hsb (by omega) fun rb fb H7 hs7 hB7 => ?_
  have hwl2 := kAll_whl (b := b) (p := p) (rows := rows)
  have hrg := hL5.hb.wf.rng
  walk_at "go"
  refine x_mTell hB7 hL5.hb.wf.bk (by omega) hrg fun e H8 hs8 he8 ht8 => ?_
  have lens := told_lens (b := b) (p := p) (rows := rows) (by omega) hb.2
  have hd8 := (hd6.mono hs7).mono hs8
  walk_at "go"
  walk_at "if"
  refine ⟨e, d, _, _, _, _, _, rfl, ht8.t5, hd8.t5, lens, fun H9 hs9 => ?_⟩
  walk_at "go"
  have s59 : Same H5 H9 := ((hs6.trans hs7).trans hs8).trans hs9
  refine x_laidBook (hC5.mono s59) hL5 hnm5 hsb (by omega) fun rb2 fb2 H10 hs10 hB10 => ?_
  walk_at "go"
  refine x_mTell hB10 hL5.hb.wf.bk (by omega) hrg fun e2 H11 hs11 he11 ht11 => ?_
  walk_at "go"
  have s911 := hs10.trans hs11
  refine ⟨e2, d, _, _, _, _, _, rfl, ht11.t5, ((hd8.mono hs9).mono s911).t5, lens, fun H12 hs12 => ?_⟩
  walk_at "go"
  have s812 := (hs9.trans s911).trans hs12
  have ht12 : TellAt H7 H12 e (kAll b p rows) := ht8.mono s812
  have hd12 : TellAt H5 H12 d (kAll b p rows) := hd8.mono s812
  have s512 : Same H5 H12 := s59.trans (s911.trans hs12)
  have s57 : Same H5 H7 := hs6.trans hs7
  have hC12 := hC5.mono s512
  have hf12 := s512 _ _ hf5
  have hn12 := s512 _ _ hn5
  have hT12 := hT5.mono (TupS.of s512)
  clear hs6 hs7 hs8 hs9 hs10 hs11 hs12 s59 s911 s812 ht8 ht11 hd8 hd6 hB7 hB10
  have fl := (kAll_len (b := b) (p := p) (rows := rows)).1
  have hskf : 0 ≤ sk ∧ sk < (((kAll b p rows).fil.length : Nat) : Int) := by omega
  refine x_join (fun σ' H' => ∃ (v9 : Option V) (rows' : List Row) (q' : Pc) (ys' : List V), σ' = [some (.ref a), some (.int b), some (.int p), some (.int sk), some (.ref x), some (.ref f), some (.ref t), some (.ref d), some (.ref e), v9] ∧ ChipP T.C_Chip H' x F q' ∧ Laid b p rows' q' ∧ rows'.length ≤ 41 ∧ (∀ r ∈ rows', r.nm < 64) ∧ (kAll b p rows').stamp < 10 ^ 39 ∧ H' t = some (.lst ys') ∧ TupL H' ys' (rows'.map r3) ∧ TellAt H7 H' e (kAll b p rows) ∧ TellAt H5 H' d (kAll b p rows)) (fun R hR => ?_) ?_
  · walk_at "go"
    obtain ⟨m, rfl⟩ : ∃ m : Nat, sk = (m : Int) := Int.eq_ofNat_of_zero_le hskf.1
    rw [Int.toNat_natCast]
    have hm : m < b.toNat := by omega
    refine x_iteD (fun hlt => ?_) (fun hge => ?_)
    rotate_left
    · walk_at "go"
      exact hR _ _ ⟨_, rows, q5, ys, rfl, hC12, hL5, by omega, hnm5, hsb, hn12, hT12, ht12, hd12⟩
    obtain ⟨st, hCc, hstf⟩ := hC12
    have hC12 : ChipP T.C_Chip H12 x F q5 := ⟨st, hCc, hstf⟩
    obtain ⟨d1, d2, d3, d4, dys, _, dd, _⟩ := hd12.ex
    have hmp : 0 ≤ (m : Int) * p ∧ (m : Int) * p ≤ 16 * 16 := ⟨Int.mul_nonneg (by omega) (by omega), Int.mul_le_mul (by omega) hp.2 (by omega) (by decide)⟩
    walk_at "go"
    refine x_mPut hCc ?_
    walk_at "go"
    rename_i tp H13 htp hs13 hn13
    rw [Int.toNat_natCast]
    obtain ⟨pz1, pz2⟩ := hL5.put (x := (kAll b p rows).stamp) (n := 63) (v := 5) hm hlt (Int.le_refl _) (by omega) (by decide) (by decide)
    obtain ⟨⟨pg0, pg1⟩, pgn, pgb⟩ := hL5.hb.page (m := m) (by rw [hL5.qb]; exact hm) (by rw [hL5.qp]; exact hlt)
    have hfr := (hL5.hb.pl (m := m) (x := (kAll b p rows).stamp) (n := 0) (v := 0) (by rw [hL5.qb]; exact hm) (by rw [hL5.qp]; exact hlt) (Int.le_refl _) (by decide) (by decide)).free
    rw [← pgn] at hfr
    have hqp := hL5.qp
    rw [hqp] at pg0 pg1 pgb hfr
    have hf0 := (hL5.hb.wf.fil m).1
    obtain ⟨re1, re2, re3, re4⟩ := note_fil_at (b := b) (k := kAll b p rows) (r := ⟨(kAll b p rows).stamp, (m : Int) * p + (kAll b p rows).fil.getD m 0, 63, 5⟩) (m := m) ⟨hm, hf0, hlt, rfl, Int.le_refl _, (show (0 : Int) ≤ 63 ∧ (63 : Int) ≤ 64 by decide)⟩ hL5.nk.2 (by omega)
    rw [← kAll_snoc] at re4
    refine putQ_put ⟨x, F, q5, _, tp, (My.mk (kAll b p rows).stamp 63, 5), rfl, hC12.mono hs13, hn13, by have := hL5.lg; omega, pg0, by rw [hqp]; exact pg1, hL5.hb.fn.br _, ?_, hL5.hb.wf.ctl, fun H14 hO14 hC14 => ?_⟩
    · unfold wrC at hfr
      exact Classical.byContradiction hfr
    rw [pz1]
    dsimp only
    have hC13 := hC12.mono hs13
    have tt14 : TupS H13 H14 := tups_of hC13.there hO14
    have hn14 : H14 t = some (.lst ys) := hO14.at (hs13 _ _ hn12) txF
    have hT14 := (hT12.mono (TupS.of hs13)).mono tt14
    have thF5 : ∀ y ∈ F.all x, H5 y ≠ none := fun y hy => by obtain ⟨o, e, _⟩ := hC5.there y hy; rw [e]; exact fun z => by cases z
    have thF7 : ∀ y ∈ F.all x, H7 y ≠ none := fun y hy => by obtain ⟨o, e, _⟩ := hC5.there y hy; rw [s57 _ _ e]; exact fun z => by cases z
    have hd14 : TellAt H5 H14 d (kAll b p rows) := (hd12.mono hs13).off hO14 thF5 tt14
    have ht14 : TellAt H7 H14 e (kAll b p rows) := (ht12.mono hs13).off hO14 thF7 tt14
    have dd14 := tt14 _ _ (hs13 _ _ dd)
    have hyl : ys.length < sizeLine := Nat.lt_of_le_of_lt (show _ ≤ 1000 by have := hT14.1; rw [List.length_map] at this; omega) (by decide)
    clear hO14
    walk_at "go"
    rename_i t8 H15 ht15 hs15 hn15 H16 hO16 hI16
    have hn15' := hs15 _ _ hn14
    have tt16 : TupS H15 H16 := hO16.tupsL hn15'
    have thT5 : ∀ y ∈ [t], H5 y ≠ none := fun y hy => by rw [List.mem_singleton.mp hy, hn5]; exact fun z => by cases z
    have thT7 : ∀ y ∈ [t], H7 y ≠ none := fun y hy => by rw [List.mem_singleton.mp hy, s57 _ _ hn5]; exact fun z => by cases z
    refine hR _ _ ⟨_, rows ++ [⟨(kAll b p rows).stamp, (m : Int) * p + (kAll b p rows).fil.getD m 0, 63, 5⟩], _, _, rfl, (hC14.mono hs15).off hO16 (fun y hy => nin_of (fun z => txF (z ▸ hy))) tt16, pz2, by rw [List.length_append, List.length_singleton]; exact Nat.succ_le_succ hlen5, fun r hr => ?_, ?_, hI16, ?_, (ht14.mono hs15).off hO16 thT7 tt16, (hd14.mono hs15).off hO16 thT5 tt16⟩
    · rcases List.mem_append.mp hr with hr | hr
      · exact hnm5 r hr
      · rw [List.mem_singleton.mp hr]
        show (63 : Int) < 64
        decide
    · rw [re4]
      show (kAll b p rows).stamp + 1 < _
      omega
    · rw [List.map_append]
      exact ((hT14.mono (TupS.of hs15)).mono tt16).snoc ⟨t8, rfl, hO16.at hn15 (fun z => by rw [List.mem_singleton.mp z, hn14] at ht15; cases ht15)⟩
  intro σ' H13 ⟨v9, rows', q', ys', hσ, hC13, hL13, hlen13, hnm13, hst13, hn13, hT13, ht13, hd13⟩
  subst hσ
  have hwl3 := kAll_whl (b := b) (p := p) (rows := rows')
  have hrg3 := hL13.hb.wf.rng
  have lens3 := told_lens (b := b) (p := p) (rows := rows') (by omega) hb.2
  walk_at "go"
  refine ⟨e, d, _, _, _, _, _, rfl, ht13.t5, hd13.t5, lens, fun H14 hs14 => ?_⟩
  walk_at "go"
  refine x_laidBook (hC13.mono hs14) hL13 hnm13 hst13 (by omega) fun rb3 fb3 H15 hs15 hB15 => ?_
  walk_at "go"
  refine x_mTell hB15 hL13.hb.wf.bk (by omega) hrg3 fun e3 H16 hs16 he16 ht16 => ?_
  have s1316 : Same H13 H16 := (hs14.trans hs15).trans hs16
  walk_at "go"
  refine ⟨t, b, p, ys', rows', q', rfl, s1316 _ _ hn13, hT13.mono (TupS.of s1316), hL13, hlen13, fun d3 H17 hs17 hd17 => ?_⟩
  walk_at "go"
  refine ⟨e3, d3, _, _, _, _, _, rfl, (ht16.mono hs17).t5, hd17.t5, lens3, fun H18 hs18 => ?_⟩
  walk_at "go"
  exact q _

end

theorem txt_of {l : PySem.W.OpenLaw} {w : World} {K : PySem.W.Frag} {h : Heap} {mg : Str → Option Value} {fa : Addr} {A : List Addr} (X : K.In h) (G : h.Ns mainGlobals mg) (hfa : mg "law" = some (.ref fa)) (c : SaysK fsK fnK K A) :
    ∃ fd : FuncData, (∀ (s : Shared) (v : Value), BindsTo s fd ⟨[v], []⟩ [("_law_script", v)]) ∧ ∀ base : Heap, K.In base → base.Ns mainGlobals mg → FnOk l.prog w K mg base (L2.CX l.prog w) 12 fa fd ["_law_script"] (spLaw K) := by
  have hh := c.facts
  unfold fsK at hh
  obtain ⟨hc0, hh⟩ := He.ba hh
  obtain ⟨a_mark_of, a_stamp_of, a_name_of, a_sheets_of, a_is_whole, a_is_within, a_rows_by_stamp, a_stamp_of_roll, a_book_of, a_endurance, a__law_cell_at, a__law_whole, a__law_mix, a__law_numbers, a__law_pairs, a__law_told, a__law_due, a__law_laid, a_law, aC_Book, pg_Book, hd_Book, po_Book, sa_Book, na_Book_blocks⟩ := fsK0_ok hc0
  obtain ⟨hc1, hh⟩ := He.ba hh
  obtain ⟨na_Book_pages, na_Book_where, na_Book_names, na_Book_live, na_Book_filled, na_Book_born, na_Book_stamp, at_Book_init, fn_Book_init, mi_Book, kc_Book, at_Book_start_at, fn_Book_start_at, at_Book_mark, fn_Book_mark, at_Book_note, fn_Book_note, at_Book_forget, fn_Book_forget, at_Book_held, fn_Book_held, at_Book_tell, fn_Book_tell, aC_Chip, pg_Chip⟩ := fsK1_ok hc1
  obtain ⟨hc2, hh⟩ := He.ba hh
  obtain ⟨hd_Chip, po_Chip, sa_Chip, na_Chip_blocks, na_Chip_pages, na_Chip_most, na_Chip_lasts, na_Chip_stuff, na_Chip_tried, na_Chip_clearings, na_Chip_broken, na_Chip_left, na_Chip_log, at_Chip_init, fn_Chip_init, mi_Chip, kc_Chip, at_Chip_need_page, fn_Chip_need_page, at_Chip_need_block, fn_Chip_need_block, at_Chip_need_power, fn_Chip_need_power, at_Chip_need_good, fn_Chip_need_good⟩ := fsK2_ok hc2
  obtain ⟨hc3, hh⟩ := He.ba hh
  obtain ⟨at_Chip_goes_well, fn_Chip_goes_well, at_Chip_put, fn_Chip_put, at_Chip_read, fn_Chip_read, at_Chip_is_dark, fn_Chip_is_dark, at_Chip_failed, fn_Chip_failed, at_Chip_deeds, fn_Chip_deeds, aC_WornError, xq_WornError, xk_WornError, xr_WornError, xt_WornError, aC_NoChip, xq_NoChip, xk_NoChip, xr_NoChip, xt_NoChip, aC_NoPlace, xq_NoPlace, xk_NoPlace⟩ := fsK3_ok hc3
  obtain ⟨hc4, hh⟩ := He.ba hh
  obtain ⟨xr_NoPlace, xt_NoPlace, aC_PowerGone, xq_PowerGone, xk_PowerGone, xr_PowerGone, xt_PowerGone, aC_BlockFailed, xl_BlockFailed, xs_BlockFailed, xr_BlockFailed, xy_BlockFailed, xk_BlockFailed, xi_BlockFailed, xt_BlockFailed, xf_BlockFailed, nx_BlockFailed_block, aC_NotClear, xl_NotClear, xs_NotClear, xr_NotClear, xy_NotClear, xk_NotClear, xi_NotClear, xt_NotClear⟩ := fsK4_ok hc4
  obtain ⟨xf_NotClear, nx_NotClear_page, wa_WornError, wr_WornError, wf_WornError, z_len, z_isinstance, z_min, z_sorted, z_int, z_str, z_list, z_tuple, z_bool, z_range, z_zip, z_ValueError, v_ROLL, vr_ROLL, v_MANY, vr_MANY, v_MOST, vr_MOST⟩ := fsK5_ok hh
  have e := hfa.symm.trans (PySem.W.mg_of X G a_law)
  cases e
  obtain ⟨fd_mark_of, D_mark_of⟩ := c.def_ 0 (d := ⟨18, "mark_of", "mark_of", defArgs s_mark_of, defBody s_mark_of, defScope s_mark_of, []⟩) rfl
  have k_mark_of : PySem.W.keepIn K (.ref (A.getD 18 0)) = true := D_mark_of.kp
  have F_mark_of : Fun K "mark_of" "mark_of" s_mark_of (A.getD 18 0) fd_mark_of := funK_of D_mark_of
  have b_mark_of := F_mark_of.binds (ps := ["stamp", "name"]) fun _ _ _ _ _ _ us hl => match us, hl with | [_, _], _ => rfl
  obtain ⟨fd_stamp_of, D_stamp_of⟩ := c.def_ 1 (d := ⟨19, "stamp_of", "stamp_of", defArgs s_stamp_of, defBody s_stamp_of, defScope s_stamp_of, []⟩) rfl
  have k_stamp_of : PySem.W.keepIn K (.ref (A.getD 19 0)) = true := D_stamp_of.kp
  have F_stamp_of : Fun K "stamp_of" "stamp_of" s_stamp_of (A.getD 19 0) fd_stamp_of := funK_of D_stamp_of
  have b_stamp_of := F_stamp_of.binds (ps := ["mark"]) fun _ _ _ _ _ _ us hl => match us, hl with | [_], _ => rfl
  obtain ⟨fd_name_of, D_name_of⟩ := c.def_ 2 (d := ⟨20, "name_of", "name_of", defArgs s_name_of, defBody s_name_of, defScope s_name_of, []⟩) rfl
  have k_name_of : PySem.W.keepIn K (.ref (A.getD 20 0)) = true := D_name_of.kp
  have F_name_of : Fun K "name_of" "name_of" s_name_of (A.getD 20 0) fd_name_of := funK_of D_name_of
  have b_name_of := F_name_of.binds (ps := ["mark"]) fun _ _ _ _ _ _ us hl => match us, hl with | [_], _ => rfl
  obtain ⟨fd_sheets_of, D_sheets_of⟩ := c.def_ 3 (d := ⟨21, "sheets_of", "sheets_of", defArgs s_sheets_of, defBody s_sheets_of, defScope s_sheets_of, []⟩) rfl
  have k_sheets_of : PySem.W.keepIn K (.ref (A.getD 21 0)) = true := D_sheets_of.kp
  have F_sheets_of : Fun K "sheets_of" "sheets_of" s_sheets_of (A.getD 21 0) fd_sheets_of := funK_of D_sheets_of
  have b_sheets_of := F_sheets_of.binds (ps := ["bits"]) fun _ _ _ _ _ _ us hl => match us, hl with | [_], _ => rfl
  obtain ⟨fd_Book_init, D_Book_init⟩ := c.def_ 4 (d := ⟨22, "__init__", "Book.__init__", defArgs s_Book_init, defBody s_Book_init, defScope s_Book_init, []⟩) rfl
  have k_Book_init : PySem.W.keepIn K (.ref (A.getD 22 0)) = true := D_Book_init.kp
  have F_Book_init : Fun K "__init__" "Book.__init__" s_Book_init (A.getD 22 0) fd_Book_init := funK_of D_Book_init
  have b_Book_init := F_Book_init.binds (ps := ["self", "blocks", "pages"]) fun _ _ _ _ _ _ us hl => match us, hl with | [_, _, _], _ => rfl
  obtain ⟨fd_Book_start_at, D_Book_start_at⟩ := c.def_ 5 (d := ⟨23, "start_at", "Book.start_at", defArgs s_Book_start_at, defBody s_Book_start_at, defScope s_Book_start_at, []⟩) rfl
  have k_Book_start_at : PySem.W.keepIn K (.ref (A.getD 23 0)) = true := D_Book_start_at.kp
  have F_Book_start_at : Fun K "start_at" "Book.start_at" s_Book_start_at (A.getD 23 0) fd_Book_start_at := funK_of D_Book_start_at
  have b_Book_start_at := F_Book_start_at.binds (ps := ["self", "stamp"]) fun _ _ _ _ _ _ us hl => match us, hl with | [_, _], _ => rfl
  obtain ⟨fd_Book_mark, D_Book_mark⟩ := c.def_ 6 (d := ⟨24, "mark", "Book.mark", defArgs s_Book_mark, defBody s_Book_mark, defScope s_Book_mark, []⟩) rfl
  have k_Book_mark : PySem.W.keepIn K (.ref (A.getD 24 0)) = true := D_Book_mark.kp
  have F_Book_mark : Fun K "mark" "Book.mark" s_Book_mark (A.getD 24 0) fd_Book_mark := funK_of D_Book_mark
  have b_Book_mark := F_Book_mark.binds (ps := ["self", "name"]) fun _ _ _ _ _ _ us hl => match us, hl with | [_, _], _ => rfl
  obtain ⟨fd_Book_note, D_Book_note⟩ := c.def_ 7 (d := ⟨25, "note", "Book.note", defArgs s_Book_note, defBody s_Book_note, defScope s_Book_note, []⟩) rfl
  have k_Book_note : PySem.W.keepIn K (.ref (A.getD 25 0)) = true := D_Book_note.kp
  have F_Book_note : Fun K "note" "Book.note" s_Book_note (A.getD 25 0) fd_Book_note := funK_of D_Book_note
  have b_Book_note := F_Book_note.binds (ps := ["self", "page", "name"]) fun _ _ _ _ _ _ us hl => match us, hl with | [_, _, _], _ => rfl
  obtain ⟨fd_Book_forget, D_Book_forget⟩ := c.def_ 8 (d := ⟨26, "forget", "Book.forget", defArgs s_Book_forget, defBody s_Book_forget, defScope s_Book_forget, []⟩) rfl
  have k_Book_forget : PySem.W.keepIn K (.ref (A.getD 26 0)) = true := D_Book_forget.kp
  have F_Book_forget : Fun K "forget" "Book.forget" s_Book_forget (A.getD 26 0) fd_Book_forget := funK_of D_Book_forget
  have b_Book_forget := F_Book_forget.binds (ps := ["self", "name"]) fun _ _ _ _ _ _ us hl => match us, hl with | [_, _], _ => rfl
  obtain ⟨fd_Book_held, D_Book_held⟩ := c.def_ 9 (d := ⟨27, "held", "Book.held", defArgs s_Book_held, defBody s_Book_held, defScope s_Book_held, []⟩) rfl
  have k_Book_held : PySem.W.keepIn K (.ref (A.getD 27 0)) = true := D_Book_held.kp
  have F_Book_held : Fun K "held" "Book.held" s_Book_held (A.getD 27 0) fd_Book_held := funK_of D_Book_held
  have b_Book_held := F_Book_held.binds (ps := ["self"]) fun _ _ _ _ _ _ us hl => match us, hl with | [_], _ => rfl
  obtain ⟨fd_Book_tell, D_Book_tell⟩ := c.def_ 10 (d := ⟨28, "tell", "Book.tell", defArgs s_Book_tell, defBody s_Book_tell, defScope s_Book_tell, []⟩) rfl
  have k_Book_tell : PySem.W.keepIn K (.ref (A.getD 28 0)) = true := D_Book_tell.kp
  have F_Book_tell : Fun K "tell" "Book.tell" s_Book_tell (A.getD 28 0) fd_Book_tell := funK_of D_Book_tell
  have b_Book_tell := F_Book_tell.binds (ps := ["self"]) fun _ _ _ _ _ _ us hl => match us, hl with | [_], _ => rfl
  obtain ⟨fd_BlockFailed_init, D_BlockFailed_init⟩ := c.def_ 11 (d := ⟨29, "__init__", "BlockFailed.__init__", defArgs s_BlockFailed_init, defBody s_BlockFailed_init, defScope s_BlockFailed_init, []⟩) rfl
  have k_BlockFailed_init : PySem.W.keepIn K (.ref (A.getD 29 0)) = true := D_BlockFailed_init.kp
  have F_BlockFailed_init : Fun K "__init__" "BlockFailed.__init__" s_BlockFailed_init (A.getD 29 0) fd_BlockFailed_init := funK_of D_BlockFailed_init
  have b_BlockFailed_init := F_BlockFailed_init.binds (ps := ["self", "block"]) fun _ _ _ _ _ _ us hl => match us, hl with | [_, _], _ => rfl
  obtain ⟨fd_NotClear_init, D_NotClear_init⟩ := c.def_ 12 (d := ⟨30, "__init__", "NotClear.__init__", defArgs s_NotClear_init, defBody s_NotClear_init, defScope s_NotClear_init, []⟩) rfl
  have k_NotClear_init : PySem.W.keepIn K (.ref (A.getD 30 0)) = true := D_NotClear_init.kp
  have F_NotClear_init : Fun K "__init__" "NotClear.__init__" s_NotClear_init (A.getD 30 0) fd_NotClear_init := funK_of D_NotClear_init
  have b_NotClear_init := F_NotClear_init.binds (ps := ["self", "page"]) fun _ _ _ _ _ _ us hl => match us, hl with | [_, _], _ => rfl
  obtain ⟨fd_is_whole, D_is_whole⟩ := c.def_ 13 (d := ⟨31, "is_whole", "is_whole", defArgs s_is_whole, defBody s_is_whole, defScope s_is_whole, []⟩) rfl
  have k_is_whole : PySem.W.keepIn K (.ref (A.getD 31 0)) = true := D_is_whole.kp
  have F_is_whole : Fun K "is_whole" "is_whole" s_is_whole (A.getD 31 0) fd_is_whole := funK_of D_is_whole
  have b_is_whole := F_is_whole.binds (ps := ["thing"]) fun _ _ _ _ _ _ us hl => match us, hl with | [_], _ => rfl
  obtain ⟨fd_is_within, D_is_within⟩ := c.def_ 14 (d := ⟨32, "is_within", "is_within", defArgs s_is_within, defBody s_is_within, defScope s_is_within, []⟩) rfl
  have k_is_within : PySem.W.keepIn K (.ref (A.getD 32 0)) = true := D_is_within.kp
  have F_is_within : Fun K "is_within" "is_within" s_is_within (A.getD 32 0) fd_is_within := funK_of D_is_within
  have b_is_within := F_is_within.binds (ps := ["thing", "low", "high"]) fun _ _ _ _ _ _ us hl => match us, hl with | [_, _, _], _ => rfl
  obtain ⟨fd_rows_by_stamp, D_rows_by_stamp⟩ := c.def_ 15 (d := ⟨33, "rows_by_stamp", "rows_by_stamp", defArgs s_rows_by_stamp, defBody s_rows_by_stamp, defScope s_rows_by_stamp, []⟩) rfl
  have k_rows_by_stamp : PySem.W.keepIn K (.ref (A.getD 33 0)) = true := D_rows_by_stamp.kp
  have F_rows_by_stamp : Fun K "rows_by_stamp" "rows_by_stamp" s_rows_by_stamp (A.getD 33 0) fd_rows_by_stamp := funK_of D_rows_by_stamp
  have b_rows_by_stamp := F_rows_by_stamp.binds (ps := ["chip"]) fun _ _ _ _ _ _ us hl => match us, hl with | [_], _ => rfl
  obtain ⟨fd_stamp_of_roll, D_stamp_of_roll⟩ := c.def_ 16 (d := ⟨34, "stamp_of_roll", "stamp_of_roll", defArgs s_stamp_of_roll, defBody s_stamp_of_roll, defScope s_stamp_of_roll, []⟩) rfl
  have k_stamp_of_roll : PySem.W.keepIn K (.ref (A.getD 34 0)) = true := D_stamp_of_roll.kp
  have F_stamp_of_roll : Fun K "stamp_of_roll" "stamp_of_roll" s_stamp_of_roll (A.getD 34 0) fd_stamp_of_roll := funK_of D_stamp_of_roll
  have b_stamp_of_roll := F_stamp_of_roll.binds (ps := ["rows"]) fun _ _ _ _ _ _ us hl => match us, hl with | [_], _ => rfl
  obtain ⟨fd_book_of, D_book_of⟩ := c.def_ 17 (d := ⟨35, "book_of", "book_of", defArgs s_book_of, defBody s_book_of, defScope s_book_of, []⟩) rfl
  have k_book_of : PySem.W.keepIn K (.ref (A.getD 35 0)) = true := D_book_of.kp
  have F_book_of : Fun K "book_of" "book_of" s_book_of (A.getD 35 0) fd_book_of := funK_of D_book_of
  have b_book_of := F_book_of.binds (ps := ["chip"]) fun _ _ _ _ _ _ us hl => match us, hl with | [_], _ => rfl
  obtain ⟨fd_endurance, D_endurance⟩ := c.def_ 18 (d := ⟨36, "endurance", "endurance", defArgs s_endurance, defBody s_endurance, defScope s_endurance, []⟩) rfl
  have k_endurance : PySem.W.keepIn K (.ref (A.getD 36 0)) = true := D_endurance.kp
  have F_endurance : Fun K "endurance" "endurance" s_endurance (A.getD 36 0) fd_endurance := funK_of D_endurance
  have b_endurance := F_endurance.binds (ps := ["blocks", "ills"]) fun _ _ _ _ _ _ us hl => match us, hl with | [_, _], _ => rfl
  obtain ⟨fd_Chip_init, D_Chip_init⟩ := c.def_ 19 (d := ⟨37, "__init__", "Chip.__init__", defArgs s_Chip_init, defBody s_Chip_init, defScope s_Chip_init, [.int (1000000), .non]⟩) rfl
  have k_Chip_init : PySem.W.keepIn K (.ref (A.getD 37 0)) = true := D_Chip_init.kp
  have F_Chip_init : FunD K "__init__" "Chip.__init__" (defArgs s_Chip_init) (defBody s_Chip_init) (defScope s_Chip_init) dfl_Chip_init [] (A.getD 37 0) fd_Chip_init := D_Chip_init
  obtain ⟨ds1_Chip_init, dv1_Chip_init, bd1_Chip_init⟩ := F_Chip_init.binds1 (ps := ["self", "blocks", "pages", "most", "ills"]) 4 1 (fun z => by cases z) (by rfl) fun T kV doc pm an cdv ct us its h1 h2 => match us, its, h1, h2 with | [_, _, _, _], [_, _], _, _ => ⟨_, rfl, rfl⟩
  obtain ⟨ds2_Chip_init, dv2_Chip_init, bd2_Chip_init⟩ := F_Chip_init.binds1 (ps := ["self", "blocks", "pages", "most", "ills"]) 3 0 (fun z => by cases z) (by rfl) fun T kV doc pm an cdv ct us its h1 h2 => match us, its, h1, h2 with | [_, _, _], [_, _], _, _ => ⟨_, rfl, rfl⟩
  obtain ⟨fd_Chip_need_page, D_Chip_need_page⟩ := c.def_ 20 (d := ⟨38, "need_page", "Chip.need_page", defArgs s_Chip_need_page, defBody s_Chip_need_page, defScope s_Chip_need_page, []⟩) rfl
  have k_Chip_need_page : PySem.W.keepIn K (.ref (A.getD 38 0)) = true := D_Chip_need_page.kp
  have F_Chip_need_page : Fun K "need_page" "Chip.need_page" s_Chip_need_page (A.getD 38 0) fd_Chip_need_page := funK_of D_Chip_need_page
  have b_Chip_need_page := F_Chip_need_page.binds (ps := ["self", "page"]) fun _ _ _ _ _ _ us hl => match us, hl with | [_, _], _ => rfl
  obtain ⟨fd_Chip_need_block, D_Chip_need_block⟩ := c.def_ 21 (d := ⟨39, "need_block", "Chip.need_block", defArgs s_Chip_need_block, defBody s_Chip_need_block, defScope s_Chip_need_block, []⟩) rfl
  have k_Chip_need_block : PySem.W.keepIn K (.ref (A.getD 39 0)) = true := D_Chip_need_block.kp
  have F_Chip_need_block : Fun K "need_block" "Chip.need_block" s_Chip_need_block (A.getD 39 0) fd_Chip_need_block := funK_of D_Chip_need_block
  have b_Chip_need_block := F_Chip_need_block.binds (ps := ["self", "block"]) fun _ _ _ _ _ _ us hl => match us, hl with | [_, _], _ => rfl
  obtain ⟨fd_Chip_need_power, D_Chip_need_power⟩ := c.def_ 22 (d := ⟨40, "need_power", "Chip.need_power", defArgs s_Chip_need_power, defBody s_Chip_need_power, defScope s_Chip_need_power, []⟩) rfl
  have k_Chip_need_power : PySem.W.keepIn K (.ref (A.getD 40 0)) = true := D_Chip_need_power.kp
  have F_Chip_need_power : Fun K "need_power" "Chip.need_power" s_Chip_need_power (A.getD 40 0) fd_Chip_need_power := funK_of D_Chip_need_power
  have b_Chip_need_power := F_Chip_need_power.binds (ps := ["self"]) fun _ _ _ _ _ _ us hl => match us, hl with | [_], _ => rfl
  obtain ⟨fd_Chip_need_good, D_Chip_need_good⟩ := c.def_ 23 (d := ⟨41, "need_good", "Chip.need_good", defArgs s_Chip_need_good, defBody s_Chip_need_good, defScope s_Chip_need_good, []⟩) rfl
  have k_Chip_need_good : PySem.W.keepIn K (.ref (A.getD 41 0)) = true := D_Chip_need_good.kp
  have F_Chip_need_good : Fun K "need_good" "Chip.need_good" s_Chip_need_good (A.getD 41 0) fd_Chip_need_good := funK_of D_Chip_need_good
  have b_Chip_need_good := F_Chip_need_good.binds (ps := ["self", "block"]) fun _ _ _ _ _ _ us hl => match us, hl with | [_, _], _ => rfl
  obtain ⟨fd_Chip_goes_well, D_Chip_goes_well⟩ := c.def_ 24 (d := ⟨42, "goes_well", "Chip.goes_well", defArgs s_Chip_goes_well, defBody s_Chip_goes_well, defScope s_Chip_goes_well, []⟩) rfl
  have k_Chip_goes_well : PySem.W.keepIn K (.ref (A.getD 42 0)) = true := D_Chip_goes_well.kp
  have F_Chip_goes_well : Fun K "goes_well" "Chip.goes_well" s_Chip_goes_well (A.getD 42 0) fd_Chip_goes_well := funK_of D_Chip_goes_well
  have b_Chip_goes_well := F_Chip_goes_well.binds (ps := ["self", "block", "worn"]) fun _ _ _ _ _ _ us hl => match us, hl with | [_, _, _], _ => rfl
  obtain ⟨fd_Chip_put, D_Chip_put⟩ := c.def_ 25 (d := ⟨43, "put", "Chip.put", defArgs s_Chip_put, defBody s_Chip_put, defScope s_Chip_put, []⟩) rfl
  have k_Chip_put : PySem.W.keepIn K (.ref (A.getD 43 0)) = true := D_Chip_put.kp
  have F_Chip_put : Fun K "put" "Chip.put" s_Chip_put (A.getD 43 0) fd_Chip_put := funK_of D_Chip_put
  have b_Chip_put := F_Chip_put.binds (ps := ["self", "page", "stuff"]) fun _ _ _ _ _ _ us hl => match us, hl with | [_, _, _], _ => rfl
  obtain ⟨fd_Chip_read, D_Chip_read⟩ := c.def_ 26 (d := ⟨44, "read", "Chip.read", defArgs s_Chip_read, defBody s_Chip_read, defScope s_Chip_read, []⟩) rfl
  have k_Chip_read : PySem.W.keepIn K (.ref (A.getD 44 0)) = true := D_Chip_read.kp
  have F_Chip_read : Fun K "read" "Chip.read" s_Chip_read (A.getD 44 0) fd_Chip_read := funK_of D_Chip_read
  have b_Chip_read := F_Chip_read.binds (ps := ["self", "page"]) fun _ _ _ _ _ _ us hl => match us, hl with | [_, _], _ => rfl
  obtain ⟨fd_Chip_is_dark, D_Chip_is_dark⟩ := c.def_ 27 (d := ⟨45, "is_dark", "Chip.is_dark", defArgs s_Chip_is_dark, defBody s_Chip_is_dark, defScope s_Chip_is_dark, []⟩) rfl
  have k_Chip_is_dark : PySem.W.keepIn K (.ref (A.getD 45 0)) = true := D_Chip_is_dark.kp
  have F_Chip_is_dark : Fun K "is_dark" "Chip.is_dark" s_Chip_is_dark (A.getD 45 0) fd_Chip_is_dark := funK_of D_Chip_is_dark
  have b_Chip_is_dark := F_Chip_is_dark.binds (ps := ["self"]) fun _ _ _ _ _ _ us hl => match us, hl with | [_], _ => rfl
  obtain ⟨fd_Chip_failed, D_Chip_failed⟩ := c.def_ 28 (d := ⟨46, "failed", "Chip.failed", defArgs s_Chip_failed, defBody s_Chip_failed, defScope s_Chip_failed, []⟩) rfl
  have k_Chip_failed : PySem.W.keepIn K (.ref (A.getD 46 0)) = true := D_Chip_failed.kp
  have F_Chip_failed : Fun K "failed" "Chip.failed" s_Chip_failed (A.getD 46 0) fd_Chip_failed := funK_of D_Chip_failed
  have b_Chip_failed := F_Chip_failed.binds (ps := ["self", "block"]) fun _ _ _ _ _ _ us hl => match us, hl with | [_, _], _ => rfl
  obtain ⟨fd_Chip_deeds, D_Chip_deeds⟩ := c.def_ 29 (d := ⟨47, "deeds", "Chip.deeds", defArgs s_Chip_deeds, defBody s_Chip_deeds, defScope s_Chip_deeds, []⟩) rfl
  have k_Chip_deeds : PySem.W.keepIn K (.ref (A.getD 47 0)) = true := D_Chip_deeds.kp
  have F_Chip_deeds : Fun K "deeds" "Chip.deeds" s_Chip_deeds (A.getD 47 0) fd_Chip_deeds := funK_of D_Chip_deeds
  have b_Chip_deeds := F_Chip_deeds.binds (ps := ["self"]) fun _ _ _ _ _ _ us hl => match us, hl with | [_], _ => rfl
  obtain ⟨fd__law_cell_at, D__law_cell_at⟩ := c.def_ 30 (d := ⟨48, "_law_cell_at", "_law_cell_at", defArgs s__law_cell_at, defBody s__law_cell_at, defScope s__law_cell_at, []⟩) rfl
  have k__law_cell_at : PySem.W.keepIn K (.ref (A.getD 48 0)) = true := D__law_cell_at.kp
  have F__law_cell_at : Fun K "_law_cell_at" "_law_cell_at" s__law_cell_at (A.getD 48 0) fd__law_cell_at := funK_of D__law_cell_at
  have b__law_cell_at := F__law_cell_at.binds (ps := ["_law_script", "_law_k"]) fun _ _ _ _ _ _ us hl => match us, hl with | [_, _], _ => rfl
  obtain ⟨fd__law_whole, D__law_whole⟩ := c.def_ 31 (d := ⟨49, "_law_whole", "_law_whole", defArgs s__law_whole, defBody s__law_whole, defScope s__law_whole, []⟩) rfl
  have k__law_whole : PySem.W.keepIn K (.ref (A.getD 49 0)) = true := D__law_whole.kp
  have F__law_whole : Fun K "_law_whole" "_law_whole" s__law_whole (A.getD 49 0) fd__law_whole := funK_of D__law_whole
  have b__law_whole := F__law_whole.binds (ps := ["_law_found"]) fun _ _ _ _ _ _ us hl => match us, hl with | [_], _ => rfl
  obtain ⟨fd__law_mix, D__law_mix⟩ := c.def_ 32 (d := ⟨50, "_law_mix", "_law_mix", defArgs s__law_mix, defBody s__law_mix, defScope s__law_mix, []⟩) rfl
  have k__law_mix : PySem.W.keepIn K (.ref (A.getD 50 0)) = true := D__law_mix.kp
  have F__law_mix : Fun K "_law_mix" "_law_mix" s__law_mix (A.getD 50 0) fd__law_mix := funK_of D__law_mix
  have b__law_mix := F__law_mix.binds (ps := ["_law_cell", "_law_k"]) fun _ _ _ _ _ _ us hl => match us, hl with | [_, _], _ => rfl
  obtain ⟨fd__law_numbers, D__law_numbers⟩ := c.def_ 33 (d := ⟨51, "_law_numbers", "_law_numbers", defArgs s__law_numbers, defBody s__law_numbers, defScope s__law_numbers, []⟩) rfl
  have k__law_numbers : PySem.W.keepIn K (.ref (A.getD 51 0)) = true := D__law_numbers.kp
  have F__law_numbers : Fun K "_law_numbers" "_law_numbers" s__law_numbers (A.getD 51 0) fd__law_numbers := funK_of D__law_numbers
  have b__law_numbers := F__law_numbers.binds (ps := ["_law_found", "_law_due_here"]) fun _ _ _ _ _ _ us hl => match us, hl with | [_, _], _ => rfl
  obtain ⟨fd__law_pairs, D__law_pairs⟩ := c.def_ 34 (d := ⟨52, "_law_pairs", "_law_pairs", defArgs s__law_pairs, defBody s__law_pairs, defScope s__law_pairs, []⟩) rfl
  have k__law_pairs : PySem.W.keepIn K (.ref (A.getD 52 0)) = true := D__law_pairs.kp
  have F__law_pairs : Fun K "_law_pairs" "_law_pairs" s__law_pairs (A.getD 52 0) fd__law_pairs := funK_of D__law_pairs
  have b__law_pairs := F__law_pairs.binds (ps := ["_law_found", "_law_due_here"]) fun _ _ _ _ _ _ us hl => match us, hl with | [_, _], _ => rfl
  obtain ⟨fd__law_told, D__law_told⟩ := c.def_ 35 (d := ⟨53, "_law_told", "_law_told", defArgs s__law_told, defBody s__law_told, defScope s__law_told, []⟩) rfl
  have k__law_told : PySem.W.keepIn K (.ref (A.getD 53 0)) = true := D__law_told.kp
  have F__law_told : Fun K "_law_told" "_law_told" s__law_told (A.getD 53 0) fd__law_told := funK_of D__law_told
  have b__law_told := F__law_told.binds (ps := ["_law_found", "_law_due_here"]) fun _ _ _ _ _ _ us hl => match us, hl with | [_, _], _ => rfl
  obtain ⟨fd__law_due, D__law_due⟩ := c.def_ 36 (d := ⟨54, "_law_due", "_law_due", defArgs s__law_due, defBody s__law_due, defScope s__law_due, []⟩) rfl
  have k__law_due : PySem.W.keepIn K (.ref (A.getD 54 0)) = true := D__law_due.kp
  have F__law_due : Fun K "_law_due" "_law_due" s__law_due (A.getD 54 0) fd__law_due := funK_of D__law_due
  have b__law_due := F__law_due.binds (ps := ["_law_rows", "_law_blocks", "_law_pages"]) fun _ _ _ _ _ _ us hl => match us, hl with | [_, _, _], _ => rfl
  obtain ⟨fd__law_laid, D__law_laid⟩ := c.def_ 37 (d := ⟨55, "_law_laid", "_law_laid", defArgs s__law_laid, defBody s__law_laid, defScope s__law_laid, []⟩) rfl
  have k__law_laid : PySem.W.keepIn K (.ref (A.getD 55 0)) = true := D__law_laid.kp
  have F__law_laid : Fun K "_law_laid" "_law_laid" s__law_laid (A.getD 55 0) fd__law_laid := funK_of D__law_laid
  have b__law_laid := F__law_laid.binds (ps := ["_law_chip", "_law_script", "_law_pages", "_law_filled"]) fun _ _ _ _ _ _ us hl => match us, hl with | [_, _, _, _], _ => rfl
  obtain ⟨fd_law, D_law⟩ := c.def_ 38 (d := ⟨56, "law", "law", defArgs s_law, defBody s_law, defScope s_law, []⟩) rfl
  have k_law : PySem.W.keepIn K (.ref (A.getD 56 0)) = true := D_law.kp
  have F_law : Fun K "law" "law" s_law (A.getD 56 0) fd_law := funK_of D_law
  have b_law := F_law.binds (ps := ["_law_script"]) fun _ _ _ _ _ _ us hl => match us, hl with | [_], _ => rfl
  have xo_BlockFailed : OexC K (A.getD 8 0) := ⟨oexB_ok xl_BlockFailed, xs_BlockFailed, xr_BlockFailed, xy_BlockFailed, xk_BlockFailed⟩
  have xo_NotClear : OexC K (A.getD 9 0) := ⟨oexB_ok xl_NotClear, xs_NotClear, xr_NotClear, xy_NotClear, xk_NotClear⟩
  let T : Txt K mg := {
    a_mark_of := (A.getD 18 0)
    fd_mark_of := fd_mark_of
    F_mark_of := F_mark_of
    bd_mark_of := b_mark_of
    k_mark_of := k_mark_of
    g_mark_of := PySem.W.mg_of X G a_mark_of
    a_stamp_of := (A.getD 19 0)
    fd_stamp_of := fd_stamp_of
    F_stamp_of := F_stamp_of
    bd_stamp_of := b_stamp_of
    k_stamp_of := k_stamp_of
    g_stamp_of := PySem.W.mg_of X G a_stamp_of
    a_name_of := (A.getD 20 0)
    fd_name_of := fd_name_of
    F_name_of := F_name_of
    bd_name_of := b_name_of
    k_name_of := k_name_of
    g_name_of := PySem.W.mg_of X G a_name_of
    a_sheets_of := (A.getD 21 0)
    fd_sheets_of := fd_sheets_of
    F_sheets_of := F_sheets_of
    bd_sheets_of := b_sheets_of
    k_sheets_of := k_sheets_of
    g_sheets_of := PySem.W.mg_of X G a_sheets_of
    a_Book_init := (A.getD 22 0)
    fd_Book_init := fd_Book_init
    F_Book_init := F_Book_init
    bd_Book_init := b_Book_init
    k_Book_init := k_Book_init
    a_Book_start_at := (A.getD 23 0)
    fd_Book_start_at := fd_Book_start_at
    F_Book_start_at := F_Book_start_at
    bd_Book_start_at := b_Book_start_at
    k_Book_start_at := k_Book_start_at
    a_Book_mark := (A.getD 24 0)
    fd_Book_mark := fd_Book_mark
    F_Book_mark := F_Book_mark
    bd_Book_mark := b_Book_mark
    k_Book_mark := k_Book_mark
    a_Book_note := (A.getD 25 0)
    fd_Book_note := fd_Book_note
    F_Book_note := F_Book_note
    bd_Book_note := b_Book_note
    k_Book_note := k_Book_note
    a_Book_forget := (A.getD 26 0)
    fd_Book_forget := fd_Book_forget
    F_Book_forget := F_Book_forget
    bd_Book_forget := b_Book_forget
    k_Book_forget := k_Book_forget
    a_Book_held := (A.getD 27 0)
    fd_Book_held := fd_Book_held
    F_Book_held := F_Book_held
    bd_Book_held := b_Book_held
    k_Book_held := k_Book_held
    a_Book_tell := (A.getD 28 0)
    fd_Book_tell := fd_Book_tell
    F_Book_tell := F_Book_tell
    bd_Book_tell := b_Book_tell
    k_Book_tell := k_Book_tell
    a_BlockFailed_init := (A.getD 29 0)
    fd_BlockFailed_init := fd_BlockFailed_init
    F_BlockFailed_init := F_BlockFailed_init
    bd_BlockFailed_init := b_BlockFailed_init
    k_BlockFailed_init := k_BlockFailed_init
    a_NotClear_init := (A.getD 30 0)
    fd_NotClear_init := fd_NotClear_init
    F_NotClear_init := F_NotClear_init
    bd_NotClear_init := b_NotClear_init
    k_NotClear_init := k_NotClear_init
    a_is_whole := (A.getD 31 0)
    fd_is_whole := fd_is_whole
    F_is_whole := F_is_whole
    bd_is_whole := b_is_whole
    k_is_whole := k_is_whole
    g_is_whole := PySem.W.mg_of X G a_is_whole
    a_is_within := (A.getD 32 0)
    fd_is_within := fd_is_within
    F_is_within := F_is_within
    bd_is_within := b_is_within
    k_is_within := k_is_within
    g_is_within := PySem.W.mg_of X G a_is_within
    a_rows_by_stamp := (A.getD 33 0)
    fd_rows_by_stamp := fd_rows_by_stamp
    F_rows_by_stamp := F_rows_by_stamp
    bd_rows_by_stamp := b_rows_by_stamp
    k_rows_by_stamp := k_rows_by_stamp
    g_rows_by_stamp := PySem.W.mg_of X G a_rows_by_stamp
    a_stamp_of_roll := (A.getD 34 0)
    fd_stamp_of_roll := fd_stamp_of_roll
    F_stamp_of_roll := F_stamp_of_roll
    bd_stamp_of_roll := b_stamp_of_roll
    k_stamp_of_roll := k_stamp_of_roll
    g_stamp_of_roll := PySem.W.mg_of X G a_stamp_of_roll
    a_book_of := (A.getD 35 0)
    fd_book_of := fd_book_of
    F_book_of := F_book_of
    bd_book_of := b_book_of
    k_book_of := k_book_of
    g_book_of := PySem.W.mg_of X G a_book_of
    a_endurance := (A.getD 36 0)
    fd_endurance := fd_endurance
    F_endurance := F_endurance
    bd_endurance := b_endurance
    k_endurance := k_endurance
    g_endurance := PySem.W.mg_of X G a_endurance
    a_Chip_init := (A.getD 37 0)
    fd_Chip_init := fd_Chip_init
    F_Chip_init := F_Chip_init
    k_Chip_init := k_Chip_init
    ds1_Chip_init := ds1_Chip_init
    dv1_Chip_init := dv1_Chip_init
    bd1_Chip_init := bd1_Chip_init
    ds2_Chip_init := ds2_Chip_init
    dv2_Chip_init := dv2_Chip_init
    bd2_Chip_init := bd2_Chip_init
    a_Chip_need_page := (A.getD 38 0)
    fd_Chip_need_page := fd_Chip_need_page
    F_Chip_need_page := F_Chip_need_page
    bd_Chip_need_page := b_Chip_need_page
    k_Chip_need_page := k_Chip_need_page
    a_Chip_need_block := (A.getD 39 0)
    fd_Chip_need_block := fd_Chip_need_block
    F_Chip_need_block := F_Chip_need_block
    bd_Chip_need_block := b_Chip_need_block
    k_Chip_need_block := k_Chip_need_block
    a_Chip_need_power := (A.getD 40 0)
    fd_Chip_need_power := fd_Chip_need_power
    F_Chip_need_power := F_Chip_need_power
    bd_Chip_need_power := b_Chip_need_power
    k_Chip_need_power := k_Chip_need_power
    a_Chip_need_good := (A.getD 41 0)
    fd_Chip_need_good := fd_Chip_need_good
    F_Chip_need_good := F_Chip_need_good
    bd_Chip_need_good := b_Chip_need_good
    k_Chip_need_good := k_Chip_need_good
    a_Chip_goes_well := (A.getD 42 0)
    fd_Chip_goes_well := fd_Chip_goes_well
    F_Chip_goes_well := F_Chip_goes_well
    bd_Chip_goes_well := b_Chip_goes_well
    k_Chip_goes_well := k_Chip_goes_well
    a_Chip_put := (A.getD 43 0)
    fd_Chip_put := fd_Chip_put
    F_Chip_put := F_Chip_put
    bd_Chip_put := b_Chip_put
    k_Chip_put := k_Chip_put
    a_Chip_read := (A.getD 44 0)
    fd_Chip_read := fd_Chip_read
    F_Chip_read := F_Chip_read
    bd_Chip_read := b_Chip_read
    k_Chip_read := k_Chip_read
    a_Chip_is_dark := (A.getD 45 0)
    fd_Chip_is_dark := fd_Chip_is_dark
    F_Chip_is_dark := F_Chip_is_dark
    bd_Chip_is_dark := b_Chip_is_dark
    k_Chip_is_dark := k_Chip_is_dark
    a_Chip_failed := (A.getD 46 0)
    fd_Chip_failed := fd_Chip_failed
    F_Chip_failed := F_Chip_failed
    bd_Chip_failed := b_Chip_failed
    k_Chip_failed := k_Chip_failed
    a_Chip_deeds := (A.getD 47 0)
    fd_Chip_deeds := fd_Chip_deeds
    F_Chip_deeds := F_Chip_deeds
    bd_Chip_deeds := b_Chip_deeds
    k_Chip_deeds := k_Chip_deeds
    a__law_cell_at := (A.getD 48 0)
    fd__law_cell_at := fd__law_cell_at
    F__law_cell_at := F__law_cell_at
    bd__law_cell_at := b__law_cell_at
    k__law_cell_at := k__law_cell_at
    g__law_cell_at := PySem.W.mg_of X G a__law_cell_at
    a__law_whole := (A.getD 49 0)
    fd__law_whole := fd__law_whole
    F__law_whole := F__law_whole
    bd__law_whole := b__law_whole
    k__law_whole := k__law_whole
    g__law_whole := PySem.W.mg_of X G a__law_whole
    a__law_mix := (A.getD 50 0)
    fd__law_mix := fd__law_mix
    F__law_mix := F__law_mix
    bd__law_mix := b__law_mix
    k__law_mix := k__law_mix
    g__law_mix := PySem.W.mg_of X G a__law_mix
    a__law_numbers := (A.getD 51 0)
    fd__law_numbers := fd__law_numbers
    F__law_numbers := F__law_numbers
    bd__law_numbers := b__law_numbers
    k__law_numbers := k__law_numbers
    g__law_numbers := PySem.W.mg_of X G a__law_numbers
    a__law_pairs := (A.getD 52 0)
    fd__law_pairs := fd__law_pairs
    F__law_pairs := F__law_pairs
    bd__law_pairs := b__law_pairs
    k__law_pairs := k__law_pairs
    g__law_pairs := PySem.W.mg_of X G a__law_pairs
    a__law_told := (A.getD 53 0)
    fd__law_told := fd__law_told
    F__law_told := F__law_told
    bd__law_told := b__law_told
    k__law_told := k__law_told
    g__law_told := PySem.W.mg_of X G a__law_told
    a__law_due := (A.getD 54 0)
    fd__law_due := fd__law_due
    F__law_due := F__law_due
    bd__law_due := b__law_due
    k__law_due := k__law_due
    g__law_due := PySem.W.mg_of X G a__law_due
    a__law_laid := (A.getD 55 0)
    fd__law_laid := fd__law_laid
    F__law_laid := F__law_laid
    bd__law_laid := b__law_laid
    k__law_laid := k__law_laid
    g__law_laid := PySem.W.mg_of X G a__law_laid
    a_law := (A.getD 56 0)
    fd_law := fd_law
    F_law := F_law
    bd_law := b_law
    k_law := k_law
    C_Book := (A.getD 2 0)
    g_Book := PySem.W.mg_of X G aC_Book
    cl_Book := ⟨pg_Book, hd_Book, po_Book, sa_Book⟩
    na_Book_blocks := na_Book_blocks
    na_Book_pages := na_Book_pages
    na_Book_where := na_Book_where
    na_Book_names := na_Book_names
    na_Book_live := na_Book_live
    na_Book_filled := na_Book_filled
    na_Book_born := na_Book_born
    na_Book_stamp := na_Book_stamp
    mk_Book := ⟨mi_Book, at_Book_init, fn_Book_init, kc_Book⟩
    m_Book_start_at := ⟨at_Book_start_at, fn_Book_start_at, k_Book_start_at⟩
    m_Book_mark := ⟨at_Book_mark, fn_Book_mark, k_Book_mark⟩
    m_Book_note := ⟨at_Book_note, fn_Book_note, k_Book_note⟩
    m_Book_forget := ⟨at_Book_forget, fn_Book_forget, k_Book_forget⟩
    m_Book_held := ⟨at_Book_held, fn_Book_held, k_Book_held⟩
    m_Book_tell := ⟨at_Book_tell, fn_Book_tell, k_Book_tell⟩
    C_Chip := (A.getD 3 0)
    g_Chip := PySem.W.mg_of X G aC_Chip
    cl_Chip := ⟨pg_Chip, hd_Chip, po_Chip, sa_Chip⟩
    na_Chip_blocks := na_Chip_blocks
    na_Chip_pages := na_Chip_pages
    na_Chip_most := na_Chip_most
    na_Chip_lasts := na_Chip_lasts
    na_Chip_stuff := na_Chip_stuff
    na_Chip_tried := na_Chip_tried
    na_Chip_clearings := na_Chip_clearings
    na_Chip_broken := na_Chip_broken
    na_Chip_left := na_Chip_left
    na_Chip_log := na_Chip_log
    mk_Chip := ⟨mi_Chip, at_Chip_init, fn_Chip_init, kc_Chip⟩
    m_Chip_need_page := ⟨at_Chip_need_page, fn_Chip_need_page, k_Chip_need_page⟩
    m_Chip_need_block := ⟨at_Chip_need_block, fn_Chip_need_block, k_Chip_need_block⟩
    m_Chip_need_power := ⟨at_Chip_need_power, fn_Chip_need_power, k_Chip_need_power⟩
    m_Chip_need_good := ⟨at_Chip_need_good, fn_Chip_need_good, k_Chip_need_good⟩
    m_Chip_goes_well := ⟨at_Chip_goes_well, fn_Chip_goes_well, k_Chip_goes_well⟩
    m_Chip_put := ⟨at_Chip_put, fn_Chip_put, k_Chip_put⟩
    m_Chip_read := ⟨at_Chip_read, fn_Chip_read, k_Chip_read⟩
    m_Chip_is_dark := ⟨at_Chip_is_dark, fn_Chip_is_dark, k_Chip_is_dark⟩
    m_Chip_failed := ⟨at_Chip_failed, fn_Chip_failed, k_Chip_failed⟩
    m_Chip_deeds := ⟨at_Chip_deeds, fn_Chip_deeds, k_Chip_deeds⟩
    C_WornError := (A.getD 4 0)
    g_WornError := PySem.W.mg_of X G aC_WornError
    xc_WornError := ⟨xq_WornError, xk_WornError, xr_WornError, xt_WornError⟩
    C_NoChip := (A.getD 5 0)
    g_NoChip := PySem.W.mg_of X G aC_NoChip
    xc_NoChip := ⟨xq_NoChip, xk_NoChip, xr_NoChip, xt_NoChip⟩
    C_NoPlace := (A.getD 6 0)
    g_NoPlace := PySem.W.mg_of X G aC_NoPlace
    xc_NoPlace := ⟨xq_NoPlace, xk_NoPlace, xr_NoPlace, xt_NoPlace⟩
    C_PowerGone := (A.getD 7 0)
    g_PowerGone := PySem.W.mg_of X G aC_PowerGone
    xc_PowerGone := ⟨xq_PowerGone, xk_PowerGone, xr_PowerGone, xt_PowerGone⟩
    C_BlockFailed := (A.getD 8 0)
    g_BlockFailed := PySem.W.mg_of X G aC_BlockFailed
    xi_BlockFailed := ⟨xo_BlockFailed, xi_BlockFailed, xt_BlockFailed, xfB_ok xf_BlockFailed⟩
    nx_BlockFailed_block := nx_BlockFailed_block
    C_NotClear := (A.getD 9 0)
    g_NotClear := PySem.W.mg_of X G aC_NotClear
    xi_NotClear := ⟨xo_NotClear, xi_NotClear, xt_NotClear, xfB_ok xf_NotClear⟩
    nx_NotClear_page := nx_NotClear_page
    wi_WornError := ⟨wa_WornError, wr_WornError, fclB_ok wf_WornError⟩
    b_len := PySem.W.mg_none_of X G z_len
    b_isinstance := PySem.W.mg_none_of X G z_isinstance
    b_min := PySem.W.mg_none_of X G z_min
    b_sorted := PySem.W.mg_none_of X G z_sorted
    b_int := PySem.W.mg_none_of X G z_int
    b_str := PySem.W.mg_none_of X G z_str
    b_list := PySem.W.mg_none_of X G z_list
    b_tuple := PySem.W.mg_none_of X G z_tuple
    b_bool := PySem.W.mg_none_of X G z_bool
    b_range := PySem.W.mg_none_of X G z_range
    b_zip := PySem.W.mg_none_of X G z_zip
    b_ValueError := PySem.W.mg_none_of X G z_ValueError
    u_ROLL := gvK K "ROLL"
    g_ROLL := PySem.W.mg_of X G v_ROLL
    r_ROLL := He.relB_ok vr_ROLL
    u_MANY := gvK K "MANY"
    g_MANY := PySem.W.mg_of X G v_MANY
    r_MANY := He.relB_ok vr_MANY
    u_MOST := gvK K "MOST"
    g_MOST := PySem.W.mg_of X G v_MOST
    r_MOST := He.relB_ok vr_MOST }
  have bl : ∀ (s : Shared) (v : Value), BindsTo s fd_law ⟨[v], []⟩ [("_law_script", v)] := fun s v => by
    have bb := D_law.bindsA (ps := ["_law_script"]) (fun _ _ _ _ _ _ us hl => match us, hl with | [_], _ => rfl) s [v] rfl
    exact bb
  exact ⟨T.fd_law, bl, fun base _ _ => ok_law T⟩
end My
open PySem PySem.W PySem.Calls PyProof.Rows
theorem PySem.Challenge.cw_wornpages_k61_pages_laid_by_hand_holds : PySem.Challenge.rw_wornpages_k61_pages_laid_by_hand.Holds := by
  w_on; o_law
  refine HandSHeadRun.head_any (r := My.RK) (q := My.qK) (H := My.hkK) (ob := My.obK) (M := 20000) (loose := My.nmK) (d := HandSHeadRun.topDef My.RK.prog 37) (kwd := []) My.obK_eq
    (by kernel_rfl) (fun s => by kernel_rfl) My.runK (by kernel_rfl) (by kernel_rfl) (by kernel_rfl) (by rfl) (by first | assumption | decide +kernel) (by decide +kernel) ⟨rfl, rfl, rfl, rfl, rfl, by decide +kernel⟩ ?hw ?hc
  case hw => w_witness2
  case hc =>
    refine Kit.walk_ofW (l := PySem.Challenge.rw_wornpages_k61_pages_laid_by_hand) (n := 63) (k := 12) (x := "_law_script") (CX := fun w => L2.CX (PySem.Challenge.rw_wornpages_k61_pages_laid_by_hand).prog w) rfl (by decide) (by kernel_rfl) ⟨rfl, by decide, by decide⟩ ?F ?X
    case X =>
      intro w H s e s' z
      obtain ⟨_, _, _, _, _, _, _, _, _, _, _, _, z⟩ := z
      exact z.elim
    intro w mg fa h Y G hmg0
    obtain ⟨K, A, KX, c⟩ := Y
    have hmg : mg ("law" : PySem.Str) = some (.ref fa) := by
      have e : (HandSHeadRun.topDef My.RK.prog 37).name = ("law" : PySem.Str) := by kernel_rfl
      rw [← e]
      exact hmg0
    obtain ⟨fd, hb, hF⟩ := My.txt_of (l := PySem.Challenge.rw_wornpages_k61_pages_laid_by_hand) (w := w) KX G hmg c
    exact ⟨K, fd, My.spLaw K, KX, hb, fun H a ns hl _ hS => ⟨a, ns, rfl, hS, hl, fun _ => rfl⟩, hF⟩

#print axioms PySem.Challenge.cw_wornpages_k61_pages_laid_by_hand_holds
