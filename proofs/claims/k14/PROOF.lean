import PyProof.Rows.All
import Wide.All
import OpenK.AllK
import Wide.FinOn
import HandS.ForMost
import HandS.ForExc
import HandS.Flow
import HandS.Wide
import HandS.WideBits
import HandS.IsInst
import HandS.ExcInit
import HandS.ExcField
import HandS.ExcIs
import HandS.TryMany
import HandS.SetKeys
import HandS.SortRule
import HandS.RevTup
import HandS.Rev
import HandS.Conv
import HandS.WordsDict
import HandS.Style
import HandS.HeadHook2
import PySem.Challenge.RW_wornpages_k14_page_by_page
set_option Elab.async false
set_option linter.all false
set_option maxRecDepth 100000
set_option maxHeartbeats 4000000
/-! Kit: unified operators, method calls by the receiver's class, and step lemmas for readings. -/
namespace Kit
open PySem PySem.Spec PyProof.Rows L2

section
variable {X : Cx}
/-! ### unified operators -/
abbrev rStrAdd : R2 := fun x y H Q => ∃ i j, x = .str i ∧ y = .str j ∧ i.length + j.length ≤ sizeLine ∧ Q (.str (i ++ j)) H
def uAdd (K : PySem.W.Frag) : R2 := fun x y H Q => rI0 (fun i j => .int (i + j)) x y H Q ∨ (rStrAdd x y H Q ∨ (rCat x y H Q ∨ rCatT K x y H Q))
theorem op_uAdd : OpR X (binaryOp .Add) (uAdd X.K) := op_add.or (op_add_str.or (op_cat.or op_catT))
def uMul : R2 := fun x y H Q => rI CMul (fun i j => .int (i * j)) x y H Q ∨ (rRep x y H Q ∨ rI CMulW (fun i j => .int (i * j)) x y H Q)
theorem op_uMul : OpR X (binaryOp .Mult) uMul := op_mul.or (op_rep.or op_mulW)
def uShl : R2 := rI CShl fun i j => .int (i * 2 ^ j.toNat)
theorem op_uShl : OpR X (binaryOp .LShift) uShl := op_shlW
def uEq (K : PySem.W.Frag) : R2 := fun x y H Q => rEq x y H Q ∨ rEqD K x y H Q
theorem op_uEq (hu : X.A.units + 64 < cLine) : OpR X (compareOp .Eq) (uEq X.K) := op_eq.or (op_eqD hu)
def uNe (K : PySem.W.Frag) : R2 := fun x y H Q => rNe x y H Q ∨ rNeD K x y H Q
theorem op_uNe (hu : X.A.units + 64 < cLine) : OpR X (compareOp .NotEq) (uNe X.K) := op_ne.or (op_neD hu)
abbrev rLtI : R2 := rI0 fun i j => .bl (decide (i < j))
def uLt : R2 := rLtI
theorem op_uLt : OpR X (compareOp .Lt) uLt := op_lt
def uIn (K : PySem.W.Frag) : R2 := rIn K false
theorem op_uIn : OpR X (compareOp .In) (uIn X.K) := op_in_seq
def uNotIn (K : PySem.W.Frag) : R2 := rIn K true
theorem op_uNotIn : OpR X (compareOp .NotIn) (uNotIn X.K) := op_notIn_seq
abbrev rIsNon : R2 := fun x y H Q => y = .non ∧ Q (.bl (decide (x = .non))) H
abbrev rIsNotNon : R2 := fun x y H Q => y = .non ∧ Q (.bl (!decide (x = .non))) H

def uIs : R2 := fun x y H Q => rIsNon x y H Q ∨ rIsB x y H Q
theorem op_uIs : OpR X (compareOp .Is) uIs := op_isN.or op_isBl
def uIsNot : R2 := fun x y H Q => rIsNotNon x y H Q ∨ rNotB x y H Q
theorem op_uIsNot : OpR X (compareOp .IsNot) uIsNot := op_notN.or op_notBl

/-! ### calls -/
theorem passL2 : ∀ σ, PassesAt (L2.CX X.prog X.w) X σ ((fun _ => E0) σ) := fun _ _ _ _ _ _ _ h => by
  obtain ⟨_, _, _, _, _, _, _, _, _, _, _, _, z⟩ := h
  exact z.elim
/-- a method of a class, by what it promises -/
structure MO (P : Program) (w : World) (K : PySem.W.Frag) (mg : Str → Option Value) (base : Heap) (CX : CXT) (n : Nat) (C : Addr) (m : Str) (sp : Sp) : Prop where
  ex : ∃ f fd ps, Cls K C ∧ Meth K C m f ∧ FnOk P w K mg base CX n f fd ps sp ∧ Binds K fd ps []
variable {CX : CXT} {k : Nat} {f C : Addr} {fd : FuncData} {ps : List Str} {sp : Sp} {dvs : List V} {ds : List Value} {E : L2.St → XK} {x m : Str} {p pos apos : Pos} {e o : Expr} {es : List Expr} {ta : TE} {t : TA}
/-- o.m(..), by the class that o has -/
def mtK (P : Program) (w : World) (K : PySem.W.Frag) (mg : Str → Option Value) (base : Heap) (CX : CXT) (n : Nat) (m : Str) (E : XK) (σ : L2.St) (t : TA) (Q : VK) : V → Hp → Prop := fun x H1 => ∃ a C dx fs sp, x = .ref a ∧ H1 a = some (.ins C dx fs) ∧ fs.lookup m = none ∧
  MO P w K mg base CX n C m sp ∧ t σ H1 fun vs H2 => sp (x :: vs) H2 Q E
def tMethD (P : Program) (w : World) (K : PySem.W.Frag) (mg : Str → Option Value) (base : Heap) (CX : CXT) (n : Nat) (m : Str) (E : L2.St → XK) (ta : TE) (t : TA) : TE := fun σ H Q => ta σ H (mtK P w K mg base CX n m (E σ) σ t Q)
theorem pe_methD {pl : Sem Bool} (he : PE X o ta) (hr : Room k X.A) (hx : ∀ σ, PassesAt CX X σ (E σ)) (ha : PA X (e :: es) t)
    (hst : starEach (e :: es) X.env = (false, eval e X.env) :: starEach es X.env := by rfl) (hpl : (backTo pos (starEach es X.env)).any (·.1) = false := by rfl)
    (ht : eval (.Call (.Attribute o m apos) (e :: es) [] pos) X.env = (do
      let ov ← eval o X.env
      standAt apos.atName
      let (f, first) ← holding [ov] (getMethod ov m pl)
      callWith pos f first (backTo pos (starEach (e :: es) X.env)) (backToKw pos (keywordEach [] X.env))) := by rfl) :
    PE X (.Call (.Attribute o m apos) (e :: es) [] pos) (tMethD X.prog X.w X.K X.mg X.base CX k m E ta t) := by
  refine ⟨fun pins s σ H Q I h => ?_⟩
  refine PySem.W.methodCall_KW (pl := pl) (thn (he.run pins s σ H _ I h) fun u s1 ⟨x, H1, I1, rx, a, C, dx, fs, sp, ex, ea, l, mo, q⟩ => ?_) ht
  subst ex
  obtain rfl : u = Value.ref a := rx
  obtain ⟨f, fd, ps, c, hm, F, hb⟩ := mo.ex
  refine getmeth_ok I1 ea c hm l ?_
  refine PySem.W.callWith_K (first := [.ref a]) (h₀ := X.base) I.ok.mod.kin hm.kp (thn (ha.run pos pins s1 σ H1 _ I1 q) fun us s2 ⟨vs, H2, I2, r, q2⟩ => ⟨I2.kIn, ?_⟩) hst hpl
  exact run_fnS (us := .ref a :: us) (vs := .ref a :: vs) F hr hb (hx σ) I2 (.cons rfl r) q2
theorem pe_methD0 {pl : Sem Bool} (he : PE X o ta) (hr : Room k X.A) (hx : ∀ σ, PassesAt CX X σ (E σ))
    (ht : eval (.Call (.Attribute o m apos) [] [] pos) X.env = (do
      let ov ← eval o X.env
      standAt apos.atName
      let (f, first) ← holding [ov] (getMethod ov m pl)
      callWith pos f first (backTo pos (starEach [] X.env)) (backToKw pos (keywordEach [] X.env))) := by rfl) :
    PE X (.Call (.Attribute o m apos) [] [] pos) (tMethD X.prog X.w X.K X.mg X.base CX k m E ta tNil) := by
  refine ⟨fun pins s σ H Q I h => ?_⟩
  refine PySem.W.methodCall_KW (pl := pl) (thn (he.run pins s σ H _ I h) fun u s1 ⟨x, H1, I1, rx, a, C, dx, fs, sp, ex, ea, l, mo, q⟩ => ?_) ht
  subst ex
  obtain rfl : u = Value.ref a := rx
  obtain ⟨f, fd, ps, c, hm, F, hb⟩ := mo.ex
  refine getmeth_ok I1 ea c hm l ?_
  exact PySem.W.callWith_K0 (first := [.ref a]) I1.kIn hm.kp (run_fnS (us := [.ref a]) (vs := [.ref a]) F hr hb (hx σ) I1 (.cons rfl .nil) q)
theorem pe_callS0 (F : FnOk X.prog X.w X.K X.mg X.base CX k f fd ps sp) (hr : Room k X.A) (hg : Gl X x) (hm : X.mg x = some (.ref f)) (hk : PySem.W.keepIn X.K (.ref f) = true) (hb : Binds X.K fd ps []) (hx : ∀ σ, PassesAt CX X σ (E σ))
    (hdb : (x == ("__debug__" : Str)) = false := by decide) : PE X (.Call (.Name x p) [] [] pos) (tCallS sp E tNil) := by
  refine ⟨fun pins s σ H Q I h => ?_⟩
  refine wpAny_Call_Name_kw (ld_glob I hg hm ?_ hdb)
  exact PySem.W.callWith_K0 I.kIn hk (run_fnS (us := []) F hr hb (hx σ) I .nil h)
/-- C(..), what is raised at the slots -/
def tMakeS (C : Addr) (sp : Sp) (dvs : List V) (E : L2.St → XK) (t : TA) : TE := fun σ H Q => t σ H fun vs H1 => ∀ x dx, H1 x = none → H1 dx = none → dx ≠ x →
  sp (.ref x :: (vs ++ dvs)) (upd (upd H1 dx (.own x)) x (.ins C dx [])) (fun v H2 => v = .non ∧ Q (.ref x) H2) (E σ)
end

section
variable {X : Cx} {CX : CXT} {k : Nat} {f C : Addr} {fd : FuncData} {ps : List Str} {sp : Sp} {dvs : List V} {ds : List Value} {E : L2.St → XK} {x : Str} {p pos : Pos} {e : Expr} {es : List Expr} {t : TA}
/-- a class without an own __init__ -/
structure Mk0 (K : PySem.W.Frag) (C : Addr) : Prop where
  makes : PySem.W.makesIn K C = true
  init : PySem.W.findIn K (.ref C) "__init__" = some (some (.builtin "object.__init__"))
  kp : PySem.W.keepIn K (.ref C) = true
theorem run_make0 {pins : List (Addr × Obj)} {σ : L2.St} {H : Hp} {s : Shared} {Q : VK} (M : Mk0 X.K C) (I : Inv X pins σ H s)
    (h : ∀ x dx, H x = none → H dx = none → dx ≠ x → Q (.ref x) (upd (upd H dx (.own x)) x (.ins C dx []))) : wpAny (model X.prog X.w) X.A (call (.ref C) []) (EP X pins σ Q) X.xe s := by
  have hq := h (s.heap.objs.size + 1) s.heap.objs.size (I.hok.fresh (Nat.le_succ _)) (I.hok.fresh (Nat.le_refl _)) (Nat.ne_of_lt (Nat.lt_succ_self _))
  have I2 := Inv.made (C := C) I
  have KX := I.kIn
  have Y := PySem.W.makes_of (M := model X.prog X.w) KX M.makes
  obtain ⟨hh, g, d, t, os⟩ := s
  refine wpAny_call (PySem.W.make_core Y (PySem.W.looks_findIn KX M.init) (fun self => PySem.W.Looks.of_pure (PySem.W.oi_bind self)) (.inr ⟨rfl, rfl⟩) ?_)
  have e1 : ((hh.push PySem.W.emptyDict).push (PySem.W.instObj C hh.objs.size)).get? (hh.objs.size + 1) = some (PySem.W.instObj C hh.objs.size) := by heap_get
  have t1 : PySem.W.Looks (model X.prog X.w) ((hh.push PySem.W.emptyDict).push (PySem.W.instObj C hh.objs.size)) (typeOf (.ref (hh.objs.size + 1))) (.ref C) := (PySem.W.Looks.ld e1).andThen .now
  have t2 : PySem.W.Looks (model X.prog X.w) ((hh.push PySem.W.emptyDict).push (PySem.W.instObj C hh.objs.size)) (isInstance (.ref (hh.objs.size + 1)) (.type "object")) true :=
    t1.andThen (Y.top.keeps fun b o e => Heap.get?_push_of_some _ (Heap.get?_push_of_some _ e))
  refine codeAny_call_builtin PySem.W.oi_plain PySem.W.entry_oi (@PySem.W.check_slot (model X.prog X.w) _ _ _ "object.__init__" "object" "__init__" (.ref (hh.objs.size + 1)) [] [] _ PySem.W.oi_kind PySem.W.oi_split t2 (PySem.W.oi_args (.ref (hh.objs.size + 1))) ?_)
  rw [PySem.W.oi_run]
  exact wpAny_pure (And.intro rfl ⟨V.ref (hh.objs.size + 1), _, I2, rfl, hq⟩)
def tMake0 (C : Addr) : TE := fun _ H Q => ∀ x dx, H x = none → H dx = none → dx ≠ x → Q (.ref x) (upd (upd H dx (.own x)) x (.ins C dx []))
theorem pe_mkN (M : Mk0 X.K C) (hg : Gl X x) (hm : X.mg x = some (.ref C)) (hdb : (x == ("__debug__" : Str)) = false := by decide) : PE X (.Call (.Name x p) [] [] pos) (tMake0 C) := by
  refine ⟨fun pins s σ H Q I h => ?_⟩
  refine wpAny_Call_Name_kw (ld_glob I hg hm ?_ hdb)
  exact PySem.W.callWith_K0 I.kIn M.kp (run_make0 M I h)
theorem run_makeS {pins : List (Addr × Obj)} {σ : L2.St} {H : Hp} {s : Shared} {Q : VK} {us : List Value} {vs : List V} (M : Mk X.K C f) (F : FnOk X.prog X.w X.K X.mg X.base CX k f fd ps sp) (hr : Room (k + 1) X.A) (hb : Binds X.K fd ps ds) (hd : Vals dvs ds)
    (hx : ∀ σ, PassesAt CX X σ (E σ)) (I : Inv X pins σ H s) (r : Vals vs us)
    (h : ∀ x dx, H x = none → H dx = none → dx ≠ x → sp (.ref x :: (vs ++ dvs)) (upd (upd H dx (.own x)) x (.ins C dx [])) (fun v H2 => v = .non ∧ Q (.ref x) H2) (E σ)) :
    wpAny (model X.prog X.w) X.A (call (.ref C) us) (EP X pins σ Q) X.xe s := by
  have hq := h (s.heap.objs.size + 1) s.heap.objs.size (I.hok.fresh (Nat.le_succ _)) (I.hok.fresh (Nat.le_refl _)) (Nat.ne_of_lt (Nat.lt_succ_self _))
  have I2 := Inv.made (C := C) I
  have r2 : Vals (V.ref (s.heap.objs.size + 1) :: (vs ++ dvs)) (Value.ref (s.heap.objs.size + 1) :: (us ++ ds)) := .cons rfl (r.append hd)
  have hl : (Value.ref (s.heap.objs.size + 1) :: us ++ ds).length = ps.length := by
    have e := r2.length
    rw [F.len _ _ _ _ hq] at e
    exact e.symm
  refine wpAny_call (make_map (f := f) I.kIn M.makes M.init (beq_iff_eq.mp M.fn) (codeAny_mono (F.run _ X.stack _ _ ⟨Value.ref (s.heap.objs.size + 1) :: us, []⟩ (Value.ref (s.heap.objs.size + 1) :: (us ++ ds)) _ _ (E σ) (hr.make C us [])
    (I2.env0.make C us []) (hb _ (Value.ref (s.heap.objs.size + 1) :: us) I2.kIn hl) r2 hq) fun r s' hq' => ?_))
  cases r with
  | error e => exact hx σ pins _ _ e s' I2 hq'
  | ok fl =>
    cases fl with
    | ret u =>
      obtain ⟨v, H', I3, rv, ev, q3⟩ := I2.after hq'
      subst ev
      exact ⟨rv, ⟨V.ref (s.heap.objs.size + 1), H', I3, rfl, q3⟩⟩
    | next => exact False.elim hq'
    | brk => exact False.elim hq'
    | cont => exact False.elim hq'
theorem pe_mkS (M : Mk X.K C f) (F : FnOk X.prog X.w X.K X.mg X.base CX k f fd ps sp) (hr : Room (k + 1) X.A) (hg : Gl X x) (hm : X.mg x = some (.ref C)) (hb : Binds X.K fd ps ds) (hd : Vals dvs ds) (hx : ∀ σ, PassesAt CX X σ (E σ))
    (ha : PA X (e :: es) t) (hdb : (x == ("__debug__" : Str)) = false := by decide) (he : starEach (e :: es) X.env = (false, eval e X.env) :: starEach es X.env := by rfl) (hpl : (backTo pos (starEach es X.env)).any (·.1) = false := by rfl) :
    PE X (.Call (.Name x p) (e :: es) [] pos) (tMakeS C sp dvs E t) := by
  refine ⟨fun pins s σ H Q I h => ?_⟩
  refine wpAny_Call_Name_kw (ld_glob I hg hm ?_ hdb)
  refine PySem.W.callWith_K (h₀ := X.base) I.ok.mod.kin M.kp (thn (ha.run pos pins s σ H _ I h) fun us s1 ⟨vs, H1, I1, r, q⟩ => ⟨I1.kIn, ?_⟩) he hpl
  exact run_makeS M F hr hb hd hx I1 r q
theorem pe_mkS0 (M : Mk X.K C f) (F : FnOk X.prog X.w X.K X.mg X.base CX k f fd ps sp) (hr : Room (k + 1) X.A) (hg : Gl X x) (hm : X.mg x = some (.ref C)) (hb : Binds X.K fd ps ds) (hd : Vals dvs ds) (hx : ∀ σ, PassesAt CX X σ (E σ))
    (hdb : (x == ("__debug__" : Str)) = false := by decide) : PE X (.Call (.Name x p) [] [] pos) (tMakeS C sp dvs E tNil) := by
  refine ⟨fun pins s σ H Q I h => ?_⟩
  refine wpAny_Call_Name_kw (ld_glob I hg hm ?_ hdb)
  exact PySem.W.callWith_K0 I.kIn M.kp (run_makeS (us := []) M F hr hb hd hx I .nil h)
end

/-! ### steps: statements -/
section
variable {σ : L2.St} {H H1 : Hp} {K : PySem.W.Frag} {D : Ends} {t u : TS} {te ta tb : TE} {c : TT} {i : Nat} {v x y : V} {Q : VK} {QB : Bool → Hp → Prop} {A B : Prop} {b : Bool}
theorem x_seq (h : t { D with nx := u D } σ H) : tSeq t u D σ H := h
theorem x_seqA {g : TG} (h : tAsg te g { D with nx := u D } σ H) : tSeq (tAsg te g) u D σ H := h
theorem x_seqD (h : tDrop te { D with nx := u D } σ H) : tSeq (tDrop te) u D σ H := h
theorem x_seqF {f : Str} (h : sFld K ta te f { D with nx := u D } σ H) : tSeq (sFld K ta te f) u D σ H := h
theorem x_seqFA {f : Str} {rd : V → V → Hp → VK → Prop} (h : sFldAug K ta te rd f { D with nx := u D } σ H) : tSeq (sFldAug K ta te rd f) u D σ H := h
theorem x_seqAug {ti : TIp} (h : tAug i te ti { D with nx := u D } σ H) : tSeq (tAug i te ti) u D σ H := h
theorem x_next (q : D.nx σ H) : tNext D σ H := q
theorem x_asg {g : TG} (h : te σ H fun x H1 => g x σ H1 D.nx) : tAsg te g D σ H := h
theorem x_gname {QS : L2.St → Hp → Prop} (q : QS (σ.set i (some v)) H) : gName i v σ H QS := q
theorem x_ret (h : te σ H D.rt) : tRet te D σ H := h
theorem x_retN (h : D.rt .non H) : tRetN D σ H := h
theorem x_drop (h : te σ H fun _ H1 => D.nx σ H1) : tDrop te D σ H := h
theorem x_if (h : c σ H fun b H1 => if b = true then t D σ H1 else u D σ H1) : tIfS c t u D σ H := h
theorem x_iteT (h : A) : if true = true then A else B := iteT h
theorem x_iteF (h : B) : if false = true then A else B := iteF h
theorem x_iteD {p : Prop} [Decidable p] (h1 : p → A) (h2 : ¬ p → B) : if decide p = true then A else B := by
  by_cases h : p
  · rw [decide_eq_true h]; exact iteT (h1 h)
  · rw [decide_eq_false h]; exact iteF (h2 h)
theorem x_iteN (h : if b = true then B else A) : if (!b) = true then A else B := by
  cases b with
  | true => exact h
  | false => exact h
theorem x_iteB (h1 : b = true → A) (h2 : b = false → B) : if b = true then A else B := by
  cases b with
  | true => exact iteT (h1 rfl)
  | false => exact iteF (h2 rfl)
/-- ways that join: J holds at the end of t on every way -/
theorem x_join (J : L2.St → Hp → Prop) (h1 : ∀ R : L2.St → Hp → Prop, (∀ σ' H', J σ' H' → R σ' H') → t { D with nx := R } σ H) (h2 : ∀ σ' H', J σ' H' → u D σ' H') : tSeq t u D σ H := h1 (u D) h2
/-! ### steps: expressions -/
theorem x_var (h : σ[i]? = some (some v)) (q : Q v H) : tVar i σ H Q := ⟨v, h, q⟩
theorem x_c (q : Q v H) : tC v σ H Q := q
theorem x_op {r : R2} (h : ta σ H fun x H1 => tb σ H1 fun y H2 => r x y H2 Q) : tOp r ta tb σ H Q := h
theorem x_un {r : V → Hp → VK → Prop} (h : ta σ H fun x H1 => r x H1 Q) : tUn r ta σ H Q := h
theorem x_cb {r : List V → Hp → VK → Prop} {t : TA} (h : t σ H fun vs H1 => r vs H1 Q) : tCB r t σ H Q := h
theorem x_nil {QA : List V → Hp → Prop} (q : QA [] H) : tNil σ H QA := q
theorem x_cons {QA : List V → Hp → Prop} {tr : TA} (h : ta σ H fun x H1 => tr σ H1 fun xs H2 => QA (x :: xs) H2) : tCons ta tr σ H QA := h
theorem x_callS {sp : Sp} {E : L2.St → XK} {t : TA} (h : t σ H fun vs H1 => sp vs H1 Q (E σ)) : tCallS sp E t σ H Q := h
theorem x_ifExp (h : c σ H fun c H1 => if c = true then ta σ H1 Q else tb σ H1 Q) : tIf c ta tb σ H Q := h
theorem x_test (h : te σ H fun x H' => ∃ k, x = .bl k ∧ QB k H') : tTest te σ H QB := h
theorem x_tB (h : te σ H fun x H' => ∃ k, x = .bl k ∧ QB k H') : tB te σ H QB := h
theorem x_and {t u : TT} (h : t σ H fun c H1 => if c = true then u σ H1 QB else QB false H1) : tAnd t u σ H QB := h
theorem x_or {t u : TT} (h : t σ H fun c H1 => if c = true then QB true H1 else u σ H1 QB) : tOr t u σ H QB := h
theorem x_not {t : TT} (h : t σ H fun c H1 => QB (!c) H1) : tNot t σ H QB := h
theorem x_andT (h : ta σ H fun x H1 => ∃ k, TruV K x H1 k ∧ if k = true then tb σ H1 Q else Q x H1) : tAndT K ta tb σ H Q := h
theorem x_orT (h : ta σ H fun x H1 => ∃ k, TruV K x H1 k ∧ if k = true then Q x H1 else tb σ H1 Q) : tOrT K ta tb σ H Q := h
theorem x_notT (h : ta σ H fun x H1 => ∃ k, TruV K x H1 k ∧ Q (.bl (!k)) H1) : tNotT K ta σ H Q := h
theorem x_truB (q : A) {P : Bool → Prop} (h : P b) : ∃ k, TruV K (.bl b) H k ∧ P k := ⟨b, rfl, h⟩
theorem x_truBl {P : Bool → Prop} (h : P b) : ∃ k, TruV K (.bl b) H k ∧ P k := ⟨b, rfl, h⟩
theorem x_isbl {P : Bool → Prop} (h : P b) : ∃ k, V.bl b = .bl k ∧ P k := ⟨b, rfl, h⟩
theorem x_chain {r r' : R2} {tc : TE} (h : ta σ H fun x H1 => tb σ H1 fun y H2 => r x y H2 fun z H3 => ∃ k, z = .bl k ∧ if k = true then tc σ H3 fun z' H4 => r' y z' H4 Q else Q (.bl false) H3) : tChain r r' ta tb tc σ H Q := h
/-! ### steps: operators on values -/
variable {m n : Int} {s1 s2 : Str}
theorem x_addI (q : Q (.int (m + n)) H) : uAdd K (.int m) (.int n) H Q := .inl ⟨m, n, rfl, rfl, q⟩
theorem x_addS (q : Q (.str (s1 ++ s2)) H) (h : s1.length + s2.length ≤ sizeLine) : uAdd K (.str s1) (.str s2) H Q := .inr (.inl ⟨s1, s2, rfl, rfl, h, q⟩)
theorem x_I0 {g : Int → Int → V} (q : Q (g m n) H) : rI0 g (.int m) (.int n) H Q := ⟨m, n, rfl, rfl, q⟩
theorem x_I {C : Int → Int → Prop} {g : Int → Int → V} (q : Q (g m n) H) (h : C m n) : rI C g (.int m) (.int n) H Q := ⟨m, n, rfl, rfl, h, q⟩
theorem x_pow {g : Int → Int → V} (q : Q (g m n) H) (h : CPow m n) : rI CPow g (.int m) (.int n) H Q := ⟨m, n, rfl, rfl, h, q⟩
theorem x_lt (q : Q (.bl (decide (m < n))) H) : uLt (.int m) (.int n) H Q := ⟨m, n, rfl, rfl, q⟩
theorem x_mulI (q : Q (.int (m * n)) H) (h : CMul m n) : uMul (.int m) (.int n) H Q := .inl ⟨m, n, rfl, rfl, h, q⟩
theorem x_mulU (q : Q (.int (m * n)) H) (h : m.natAbs < 2 ^ 250 ∧ n.natAbs < 2 ^ 250) : uMul (.int m) (.int n) H Q := .inr (.inr ⟨m, n, rfl, rfl, wide_mul h.1 h.2 (by decide) (by decide) (by decide), q⟩)
theorem same_upd {o : HO} {p : Addr} (h : H p = none) : Same H (upd H p o) := fun b u e => by rw [upd_ne (ne_of_none e h)]; exact e
theorem same_updS {H H' : Hp} {o : HO} {p : Addr} (s : Same H H') (h : H p = none) : Same H (upd H' p o) := fun b u e => by rw [upd_ne (ne_of_none e h)]; exact s _ _ e
theorem cutV_from {xs : List V} (k : Nat) : cutV xs (some (k : Int)) none = xs.drop k := by
  unfold cutV
  rw [HT.sIx_nat, HT.sIx_none]
  by_cases h : k ≤ xs.length
  · rw [Nat.min_eq_left h, List.take_of_length_le (by rw [List.length_drop]; exact Nat.le_refl _)]
  · rw [Nat.min_eq_right (by omega), List.drop_of_length_le (Nat.le_refl _), List.drop_of_length_le (by omega), List.take_nil]
theorem cutV_to {xs : List V} (k : Nat) : cutV xs none (some (k : Int)) = xs.take k := by
  unfold cutV
  rw [HT.sIx_nat, HT.sIx_none, List.drop_zero, Nat.sub_zero]
  by_cases h : k ≤ xs.length
  · rw [Nat.min_eq_left h]
  · rw [Nat.min_eq_right (by omega), List.take_of_length_le (Nat.le_refl _), List.take_of_length_le (by omega)]
/-- a new object: what is asked of it -/
abbrev New (H : Hp) (Q : VK) (o : HO) : Prop := ∀ p H1, H p = none → Same H H1 → H1 p = some o → Q (.ref p) H1
theorem New.mk {o : HO} (h : New H Q o) : ∀ p, H p = none → Q (.ref p) (upd H p o) := fun p hp => h p _ hp (same_upd hp) upd_same
def nwL (Q : VK) : List V → Hp → Prop := fun xs H1 => xs.length ≤ sizeLine ∧ ∀ p, H1 p = none → Q (.ref p) (upd H1 p (.lst xs))
def nwT (Q : VK) : List V → Hp → Prop := fun xs H1 => xs.length ≤ sizeLine ∧ ∀ p, H1 p = none → Q (.ref p) (upd H1 p (.tup xs))
theorem x_nwL {xs : List V} (h : New H Q (.lst xs)) (hl : xs.length ≤ sizeLine) : nwL Q xs H := ⟨hl, h.mk⟩
theorem x_nwT {xs : List V} (h : New H Q (.tup xs)) (hl : xs.length ≤ sizeLine) : nwT Q xs H := ⟨hl, h.mk⟩
theorem x_addL {l l' : Addr} {xs ys : List V} (h1 : H l = some (.lst xs)) (h2 : H l' = some (.lst ys)) (q : New H Q (.lst (xs ++ ys))) (hl : xs.length + ys.length ≤ sizeLine) : uAdd K (.ref l) (.ref l') H Q :=
  .inr (.inr (.inl ⟨l, l', xs, ys, rfl, rfl, h1, h2, hl, q.mk⟩))
theorem x_rep {l : Addr} {xs : List V} (h1 : H l = some (.lst xs)) (q : New H Q (.lst (List.replicate n.toNat xs).flatten)) (h2 : n < 2 ^ 63) (h0 : 0 ≤ n) (hl : xs.length * n.toNat ≤ sizeLine) : uMul (.ref l) (.int n) H Q :=
  .inr (.inl ⟨l, n, xs, rfl, rfl, h1, Int.le_trans (by decide) h0, h2, hl, q.mk⟩)
theorem flat_rep {v : V} : ∀ n : Nat, (List.replicate n [v]).flatten = List.replicate n v
  | 0 => rfl
  | n + 1 => by rw [List.replicate_succ, List.flatten_cons, flat_rep n]; rfl
/-- [v] * n -/
theorem x_rep1 {l : Addr} {v : V} (h1 : H l = some (.lst [v])) (q : New H Q (.lst (List.replicate n.toNat v))) (h : 0 ≤ n ∧ n ≤ 1000000) : uMul (.ref l) (.int n) H Q :=
  x_rep h1 (by rw [flat_rep]; exact q) (by omega) h.1 (by rw [List.length_singleton, Nat.one_mul]; exact Nat.le_trans (show n.toNat ≤ 1000000 by omega) (by decide))
theorem cdivW {i j : Int} (h : 0 < j) (h2 : j < 10 ^ 60) : CDivW i j := by
  refine wide_div (b := 200) h ?_ (by decide) (by decide)
  have : (2:Nat) ^ 200 = 1606938044258990275541962092341162602522202993782792835301376 := by decide
  omega
theorem x_shl (q : Q (.int (m * 2 ^ n.toNat)) H) (h : CShl m n) : uShl (.int m) (.int n) H Q := ⟨m, n, rfl, rfl, h, q⟩
theorem x_U {g : Int → V} (q : Q (g m) H) : rU g (.int m) H Q := ⟨m, rfl, q⟩
theorem x_eqI (q : Q (.bl (decide (m = n))) H) : uEq K (.int m) (.int n) H Q := .inl ⟨rfl, by rw [dec_int, ← Bool.beq_eq_decide_eq] at *; exact q⟩
theorem x_neI (q : Q (.bl (!decide (m = n))) H) : uNe K (.int m) (.int n) H Q := .inl ⟨rfl, by rw [dec_int, ← Bool.beq_eq_decide_eq] at *; exact q⟩
theorem x_eqB {b c : Bool} (q : Q (.bl (decide (b = c))) H) : uEq K (.bl b) (.bl c) H Q := .inl ⟨rfl, by rw [dec_bl, ← Bool.beq_eq_decide_eq] at *; exact q⟩
theorem x_neB {b c : Bool} (q : Q (.bl (!decide (b = c))) H) : uNe K (.bl b) (.bl c) H Q := .inl ⟨rfl, by rw [dec_bl, ← Bool.beq_eq_decide_eq] at *; exact q⟩
theorem x_eqS (q : Q (.bl (decide (s1 = s2))) H) : uEq K (.str s1) (.str s2) H Q := .inl ⟨rfl, by rw [dec_str] at *; rw [show decide (s1 = s2) = (s1 == s2) from by rw [Bool.beq_eq_decide_eq]] at q; exact q⟩
theorem x_tup {t : TA} (h : t σ H (nwT Q)) : tTup t σ H Q := h
theorem x_lst {t : TA} (h : t σ H (nwL Q)) : tLst t σ H Q := h
/-! ### steps: sequences -/
variable {p : Addr} {xs : List V} {ns : List Int}
theorem atI_getD {α : Type} {xs : List α} {i : Int} (d : α) (h0 : 0 ≤ i) (h1 : i < xs.length) : atI xs i = some (xs.getD i.toNat d) := by
  obtain ⟨j, rfl⟩ : ∃ j : Nat, i = (j : Int) := ⟨i.toNat, by omega⟩
  have hj : j < xs.length := by omega
  exact atI_nat (by simp [hj])
theorem x_ixI (h : SqL K H p (ns.map V.int)) (q : Q (.int (ns.getD n.toNat 0)) H) (h0 : 0 ≤ n) (h1 : n < ns.length) : rIx K (.ref p) (.int n) H Q :=
  .inl ⟨p, _, n, _, rfl, rfl, h, by
    rw [atI_getD (.int 0) h0 (by rw [List.length_map]; exact h1)]
    have hn : n.toNat < ns.length := by omega
    simp [hn], q⟩
theorem x_ixS (h : SqL K H p xs) (ha : atI xs n = some v) (q : Q v H) : rIx K (.ref p) (.int n) H Q := .inl ⟨p, _, n, _, rfl, rfl, h, ha, q⟩
theorem atI_0 {α : Type} {x : α} {xs : List α} : atI (x :: xs) 0 = some x := atI_nat (j := 0) (by simp)
theorem x_ixH (h : SqL K H p (v :: xs)) (q : Q v H) : rIx K (.ref p) (.int 0) H Q := .inl ⟨p, _, 0, _, rfl, rfl, h, atI_0, q⟩
theorem atI_any (n : Nat) (hn : 0 < n) (o : Int) (ho : o = 0 ∨ o = -1) : ∃ i, i < n ∧ ∀ {α : Type} (xs : List α), xs.length = n → atI xs o = xs[i]? := by
  rcases ho with rfl | rfl
  · exact ⟨0, hn, fun xs h => by
      cases xs with
      | nil => simp at h; omega
      | cons x xs => rw [atI_0]; rfl⟩
  · refine ⟨n - 1, by omega, fun xs h => ?_⟩
    unfold atI ixN
    rw [h, if_neg (by decide), if_pos (by omega)]
    show xs[((n : Int) + -1).toNat]? = _
    rw [show ((n : Int) + -1).toNat = n - 1 by omega]
theorem x_ixL (h : SqL K H p xs) (q : Q (xs.getD n.toNat .non) H) (h0 : 0 ≤ n) (h1 : n < xs.length) : rIx K (.ref p) (.int n) H Q :=
  .inl ⟨p, _, n, _, rfl, rfl, h, atI_getD _ h0 h1, q⟩
theorem x_ixT (h : SqT K H p xs) (ha : atI xs n = some v) (q : Q v H) : rIx K (.ref p) (.int n) H Q :=
  .inr (.inl ⟨p, _, n, _, rfl, rfl, h, ha, q⟩)
end

/-! ### data -/
section
variable {X : Cx} {σ : L2.St} {H H' : Hp} {K : PySem.W.Frag} {Q : VK} {x y : V}
theorem cl_all : ∀ ds : List PyData, PyData.canLayAll0 ds = true ↔ ∀ d ∈ ds, PyData.canLay0 d = true
  | [] => by simp [PyData.canLayAll0]
  | d :: ds => by rw [PyData.canLayAll0, Bool.and_eq_true, cl_all ds]; simp
theorem dp_all {k : Nat} : ∀ ds : List PyData, PyData.depthAll ds ≤ k ↔ ∀ d ∈ ds, PyData.depth d ≤ k
  | [] => by simp [PyData.depthAll]
  | d :: ds => by rw [PyData.depthAll, Nat.max_le, dp_all ds]; simp
/-- data of a depth that can be compared -/
def Sh (k : Nat) (d : PyData) : Prop := d.canLay0 = true ∧ d.depth ≤ k
theorem Sh.list {k : Nat} {ds : List PyData} (h : ∀ d ∈ ds, Sh k d) : Sh (k + 1) (.list ds) := ⟨by rw [PyData.canLay0]; exact (cl_all ds).mpr fun d m => (h d m).1, by rw [PyData.depth]; exact Nat.succ_le_succ ((dp_all ds).mpr fun d m => (h d m).2)⟩
theorem Sh.tup {k : Nat} {ds : List PyData} (h : ∀ d ∈ ds, Sh k d) : Sh (k + 1) (.tuple ds) := ⟨by rw [PyData.canLay0]; exact (cl_all ds).mpr fun d m => (h d m).1, by rw [PyData.depth]; exact Nat.succ_le_succ ((dp_all ds).mpr fun d m => (h d m).2)⟩
theorem Sh.int {k : Nat} {n : Int} : Sh k (.int n) := ⟨by simp [PyData.canLay0], by simp [PyData.depth]⟩
theorem Sh.non {k : Nat} : Sh k .none := ⟨by simp [PyData.canLay0], by simp [PyData.depth]⟩
theorem Sh.bl {k : Nat} {b : Bool} : Sh k (.bool b) := ⟨by simp [PyData.canLay0], by simp [PyData.depth]⟩
theorem Sh.str {k : Nat} {s : Str} (h : PyData.strOk s = true) : Sh k (.str s) := ⟨by rw [PyData.canLay0]; exact h, by simp [PyData.depth]⟩
theorem Sh.shaped {k : Nat} {d : PyData} (h : Sh k d) (hk : k ≤ 64) : SeqAt.shaped d = true := by
  unfold SeqAt.shaped
  rw [h.1, decide_eq_true (Nat.le_trans h.2 hk)]
  rfl
theorem Sh.refl {k : Nat} {d : PyData} (h : Sh k d) : PyData.eqv d d = true := SeqAt.eqv_refl d h.1
theorem x_eqD {d e : PyData} (h1 : Dp K H x d) (h2 : Dp K H y e) (s1 : Sh 9 d) (s2 : Sh 9 e) (q : Q (.bl (PyData.eqv d e)) H) : uEq K x y H Q := .inr ⟨d, e, h1, h2, s1.shaped (by decide), s2.shaped (by decide), q⟩
theorem x_neD {d e : PyData} (h1 : Dp K H x d) (h2 : Dp K H y e) (s1 : Sh 9 d) (s2 : Sh 9 e) (q : Q (.bl (!PyData.eqv d e)) H) : uNe K x y H Q := .inr ⟨d, e, h1, h2, s1.shaped (by decide), s2.shaped (by decide), q⟩
/-- the same data -/
theorem x_eqS2 {d : PyData} (h1 : Dp K H x d) (h2 : Dp K H y d) (s1 : Sh 9 d) (q : Q (.bl true) H) : uEq K x y H Q := x_eqD h1 h2 s1 s1 (by rw [s1.refl]; exact q)
theorem x_neS2 {d : PyData} (h1 : Dp K H x d) (h2 : Dp K H y d) (s1 : Sh 9 d) (q : Q (.bl false) H) : uNe K x y H Q := x_neD h1 h2 s1 s1 (by rw [s1.refl]; exact q)
theorem dpAll_of : ∀ {vs : List V} {ds : List PyData}, vs.length = ds.length → (∀ (i : Nat) v d, vs[i]? = some v → ds[i]? = some d → Dp K H v d) → DpAll K H vs ds
  | [], [], _, _ => .nil
  | v :: vs, d :: ds, hl, h => .cons (h 0 v d rfl rfl) (dpAll_of (by simpa using hl) fun i a b h1 h2 => h (i + 1) a b h1 h2)
theorem dpInts : ∀ {ns : List Int}, DpAll K H (ns.map V.int) (ns.map PyData.int)
  | [] => .nil
  | n :: ns => .cons (.int n) dpInts
end
/-! ### loops -/
section
variable {X : Cx} {σ : L2.St} {H : Hp} {K : PySem.W.Frag} {D : Ends} {g : TG} {tb : TS} {tl te : TE} {tt : TT} {ta : TA} {a : Addr} {xs : List V} {Q : VK} {vs : List Nat}
theorem sl_u : SlR X (rSlL X.K) := sl_list
theorem x_slice {to th : TO} {r : V → Option Int → Option Int → Hp → VK → Prop} (h : te σ H fun x H1 => to σ H1 fun l H2 => th σ H2 fun u H3 => r x l u H3 Q) : tSl r te to th σ H Q := h
theorem x_noPart {QO : Option Int → Hp → Prop} (q : QO none H) : tNoPart σ H QO := q
def ptK (QO : Option Int → Hp → Prop) : V → Hp → Prop := fun x H1 => ∃ i, x = .int i ∧ QO (some i) H1
theorem x_part {QO : Option Int → Hp → Prop} (h : te σ H (ptK QO)) : tPart te σ H QO := h
theorem x_ptK {QO : Option Int → Hp → Prop} {i : Int} (q : QO (some i) H) : ptK QO (.int i) H := ⟨i, rfl, q⟩
theorem x_slL {lo hi : Option Int} (h : SqL K H a xs) (q : New H Q (.lst (cutV xs lo hi))) : rSlL K (.ref a) lo hi H Q := ⟨a, xs, rfl, h, q.mk⟩
def loopK (J : It) (g : TG) (tb : TS) (D : Ends) (σ : L2.St) (H1 : Hp) : Prop := ∃ W : Nat → Nat → L2.St → Hp → Prop, (∃ m, W 0 m σ H1) ∧ ∀ i m σ H, W i m σ H →
  (J.stop i H ∧ D.nx σ H) ∨ (J.go i H ∧ ∃ N : L2.St → Hp → Prop, (∀ σ' H', N σ' H' → ∃ m', m' < m ∧ W (i + 1) m' σ' H') ∧ ∀ x H', J.yld i H x H' → g x σ H' fun σ2 H2 => tb { D with nx := N, ct := N, bk := D.nx } σ2 H2)
def frL (K : PySem.W.Frag) (g : TG) (tb : TS) (D : Ends) (σ : L2.St) : V → Hp → Prop := fun x H1 => ∃ a, x = .ref a ∧ (∃ xs, SqL K H1 a xs) ∧ loopK (Itl K a) g tb D σ H1
theorem x_forL (h : tl σ H (frL K g tb D σ)) : tFor (iList K tl) g tb D σ H := h
theorem x_frL (hq : SqL K H a xs) (Pv : Nat → L2.St → Hp → Prop) (h0 : Pv 0 σ H) (hl : ∀ i σ H, i ≤ xs.length → Pv i σ H → SqL K H a xs)
    (hs : ∀ i x σ H, xs[i]? = some x → Pv i σ H → g x σ H fun σ2 H2 => tb { D with nx := Pv (i + 1), ct := Pv (i + 1), bk := D.nx } σ2 H2) (hd : ∀ σ H, Pv xs.length σ H → D.nx σ H) : frL K g tb D σ (.ref a) H :=
  ⟨a, rfl, ⟨_, hq⟩, for_list Pv h0 hl hs hd⟩
def frT (K : PySem.W.Frag) (g : TG) (tb : TS) (D : Ends) (σ : L2.St) : V → Hp → Prop := fun x H1 => ∃ a, x = .ref a ∧ (∃ xs, SqT K H1 a xs) ∧ loopK (Itt K a) g tb D σ H1
theorem x_forT (h : tl σ H (frT K g tb D σ)) : tFor (iTup K tl) g tb D σ H := h
theorem x_frT (hq : SqT K H a xs) (Pv : Nat → L2.St → Hp → Prop) (h0 : Pv 0 σ H) (hl : ∀ i σ H, i ≤ xs.length → Pv i σ H → SqT K H a xs)
    (hs : ∀ i x σ H, xs[i]? = some x → Pv i σ H → g x σ H fun σ2 H2 => tb { D with nx := Pv (i + 1), ct := Pv (i + 1), bk := D.nx } σ2 H2) (hd : ∀ σ H, Pv xs.length σ H → D.nx σ H) : frT K g tb D σ (.ref a) H :=
  ⟨a, rfl, ⟨_, hq⟩, for_tup Pv h0 hl hs hd⟩
/-! a loop over a list or a tuple -/
def SqX (K : PySem.W.Frag) (H : Hp) (a : Addr) (xs : List V) : Prop := SqL K H a xs ∨ SqT K H a xs
def iSeq (K : PySem.W.Frag) (tl : TE) : TI := fun σ H R => tl σ H fun x H1 => ∃ a, x = .ref a ∧ (((∃ xs, SqL K H1 a xs) ∧ R (Itl K a) H1) ∨ ((∃ xs, SqT K H1 a xs) ∧ R (Itt K a) H1))
theorem pi_seq {X : Cx} {tg l : Expr} {tl : TE} (hl : PE X l tl) : PI X tg l (iSeq X.K tl) := by
  refine ⟨fun pins s σ H R I h => thn (hl.run pins s σ H _ I h) fun v s1 ⟨x, H1, I1, r1, a, e, q⟩ => ?_⟩
  subst e; cases r1
  have fp : ∀ b ∈ [s1.heap.objs.size], _ := fun b hb => (List.mem_singleton.mp hb) ▸ I1.fpOk (Nat.le_refl _) (I1.hok.fresh (Nat.le_refl _))
  rcases q with ⟨⟨xs, hq⟩, q⟩ | ⟨⟨xs, hq⟩, q⟩
  · obtain ⟨its, rv, p, hz⟩ := I1.list hq
    exact wpAny_pyIter_list p.isList ⟨s1.heap.objs.size, [s1.heap.objs.size], _, _, H1, rfl, I1.kept (t' := s1.toks) fun b o e => Heap.get?_push_of_some _ e, turn_list a _, ⟨_, Heap.get?_push_size _ rfl, rfl, rfl⟩, fp, q⟩
  · obtain ⟨its, rv, p, hz⟩ := I1.tuple hq
    exact wpAny_pyIter_tuple (show s1.heap.IsTuple a its.toArray from p) ⟨s1.heap.objs.size, [s1.heap.objs.size], _, _, H1, rfl, I1.kept (t' := s1.toks) fun b o e => Heap.get?_push_of_some _ e, turn_tuple a _, ⟨_, Heap.get?_push_size _ rfl, rfl, rfl⟩, fp, q⟩
def frS (K : PySem.W.Frag) (g : TG) (tb : TS) (D : Ends) (σ : L2.St) : V → Hp → Prop := fun x H1 => ∃ a, x = .ref a ∧ (((∃ xs, SqL K H1 a xs) ∧ loopK (Itl K a) g tb D σ H1) ∨ ((∃ xs, SqT K H1 a xs) ∧ loopK (Itt K a) g tb D σ H1))
theorem x_forS (h : tl σ H (frS K g tb D σ)) : tFor (iSeq K tl) g tb D σ H := h
/-- a list (k) or a tuple -/
def SqB (k : Bool) (K : PySem.W.Frag) (H : Hp) (a : Addr) (xs : List V) : Prop := if k = true then SqL K H a xs else SqT K H a xs
theorem sqB_of (h : H a = some (.lst xs) ∨ H a = some (.tup xs)) : ∃ k, ∀ H', Same H H' → SqB k K H' a xs := by
  rcases h with h | h
  · exact ⟨true, fun H' s => SqL.of (s _ _ h)⟩
  · exact ⟨false, fun H' s => SqT.of (s _ _ h)⟩
theorem x_frS {k : Bool} (hq : SqB k K H a xs) (Pv : Nat → L2.St → Hp → Prop) (h0 : Pv 0 σ H) (hl : ∀ i σ' H', i ≤ xs.length → Pv i σ' H' → SqB k K H' a xs)
    (hs : ∀ i x σ H, xs[i]? = some x → Pv i σ H → g x σ H fun σ2 H2 => tb { D with nx := Pv (i + 1), ct := Pv (i + 1), bk := D.nx } σ2 H2) (hd : ∀ σ H, Pv xs.length σ H → D.nx σ H) : frS K g tb D σ (.ref a) H := by
  cases k with
  | true => exact ⟨a, rfl, .inl ⟨⟨_, hq⟩, for_list Pv h0 hl hs hd⟩⟩
  | false => exact ⟨a, rfl, .inr ⟨⟨_, hq⟩, for_tup Pv h0 hl hs hd⟩⟩
def frR1 (g : TG) (tb : TS) (D : Ends) (σ : L2.St) : List V → Hp → Prop := fun vs H1 => ∃ j : Int, vs = [.int j] ∧ -(2 ^ 62) ≤ j ∧ j < 2 ^ 62 ∧ loopK (Itr 0 j.toNat) g tb D σ H1
theorem x_forR1 (h : ta σ H (frR1 g tb D σ)) : tFor (iRng1 ta) g tb D σ H := h
theorem x_frR1 {j : Int} (b : -(2 ^ 62) ≤ j ∧ j < 2 ^ 62) (Pv : Nat → L2.St → Hp → Prop) (h0 : Pv 0 σ H)
    (hs : ∀ i σ H, i < j.toNat → Pv i σ H → g (.int (0 + i)) σ H fun σ2 H2 => tb { D with nx := Pv (i + 1), ct := Pv (i + 1), bk := D.nx } σ2 H2) (hd : ∀ σ H, Pv j.toNat σ H → D.nx σ H) : frR1 g tb D σ [.int j] H :=
  ⟨j, rfl, b.1, b.2, for_range Pv h0 hs hd⟩
def frR2 (g : TG) (tb : TS) (D : Ends) (σ : L2.St) : List V → Hp → Prop := fun vs H1 => ∃ i j : Int, vs = [.int i, .int j] ∧ (-(2 ^ 62) ≤ i ∧ i < 2 ^ 62 ∧ -(2 ^ 62) ≤ j ∧ j < 2 ^ 62) ∧ loopK (Itr i (j - i).toNat) g tb D σ H1
theorem x_forR2 (h : ta σ H (frR2 g tb D σ)) : tFor (iRng2 ta) g tb D σ H := h
theorem x_frR2 {lo j : Int} (b : -(2 ^ 62) ≤ lo ∧ lo < 2 ^ 62 ∧ -(2 ^ 62) ≤ j ∧ j < 2 ^ 62) (Pv : Nat → L2.St → Hp → Prop) (h0 : Pv 0 σ H)
    (hs : ∀ i σ H, i < (j - lo).toNat → Pv i σ H → g (.int (lo + i)) σ H fun σ2 H2 => tb { D with nx := Pv (i + 1), ct := Pv (i + 1), bk := D.nx } σ2 H2) (hd : ∀ σ H, Pv (j - lo).toNat σ H → D.nx σ H) : frR2 g tb D σ [.int lo, .int j] H :=
  ⟨lo, j, rfl, b, for_range Pv h0 hs hd⟩
theorem x_gtup2 {i j : Nat} {QS : L2.St → Hp → Prop} {x y : V} (h : SqT K H a [x, y]) (q : QS ((σ.set i (some x)).set j (some y)) H) : gTup K 2 (gCons (gName i) (gCons (gName j) gNil)) (.ref a) σ H QS :=
  ⟨a, [x, y], rfl, h, rfl, x, [y], rfl, y, [], rfl, rfl, q⟩
theorem x_gtup3 {i j k : Nat} {QS : L2.St → Hp → Prop} {x y z : V} (h : SqT K H a [x, y, z]) (q : QS (((σ.set i (some x)).set j (some y)).set k (some z)) H) : gTup K 3 (gCons (gName i) (gCons (gName j) (gCons (gName k) gNil))) (.ref a) σ H QS :=
  ⟨a, [x, y, z], rfl, h, rfl, x, [y, z], rfl, y, [z], rfl, z, [], rfl, rfl, q⟩
def frEn (K : PySem.W.Frag) (g : TG) (tb : TS) (D : Ends) (σ : L2.St) : List V → Hp → Prop := fun vs H1 => ∃ a xs, vs = [.ref a] ∧ SqL K H1 a xs ∧ loopK (Ite K a) g tb D σ H1
theorem x_forEn (h : ta σ H (frEn K g tb D σ)) : tFor (iEnum K ta) g tb D σ H := h
theorem x_frEn {n1 n2 : Nat} (hq : SqL K H a xs) (Pv : Nat → L2.St → Hp → Prop) (h0 : Pv 0 σ H) (hl : ∀ i σ H, i ≤ xs.length → Pv i σ H → SqL K H a xs)
    (hs : ∀ i x σ H H', xs[i]? = some x → Pv i σ H → Same H H' → tb { D with nx := Pv (i + 1), ct := Pv (i + 1), bk := D.nx } ((σ.set n1 (some (.int (i : Nat)))).set n2 (some x)) H') (hd : ∀ σ H, Pv xs.length σ H → D.nx σ H) :
    frEn K (gTup K 2 (gCons (gName n1) (gCons (gName n2) gNil))) tb D σ [.ref a] H := by
  refine ⟨a, xs, rfl, hq, fun i m σ H => m = xs.length - i ∧ i ≤ xs.length ∧ Pv i σ H, ⟨xs.length, rfl, Nat.zero_le _, h0⟩, ?_⟩
  rintro i m σ H ⟨rfl, hi, p⟩
  have q := hl i σ H hi p
  by_cases hlt : i < xs.length
  · refine .inr ⟨⟨xs, _, q, List.getElem?_eq_getElem hlt⟩, Pv (i + 1), fun σ' H' p' => ⟨xs.length - (i + 1), by omega, rfl, hlt, p'⟩, fun v H' y => ?_⟩
    obtain ⟨T, x, rfl, hT, rfl, f1⟩ := y
    exact x_gtup2 (SqT.of upd_same) (hs i x σ H _ (f1 xs q) p (same_upd hT))
  · have e : i = xs.length := by omega
    subst e
    exact .inl ⟨⟨xs, q, Nat.le_refl _⟩, hd σ H p⟩
def frZ (K : PySem.W.Frag) (g : TG) (tb : TS) (D : Ends) (σ : L2.St) : List V → Hp → Prop := fun vs H1 => ∃ a b xs ys, vs = [.ref a, .ref b] ∧ SqL K H1 a xs ∧ SqL K H1 b ys ∧ loopK (Itz K a b) g tb D σ H1
theorem x_forZ (h : ta σ H (frZ K g tb D σ)) : tFor (iZip K ta) g tb D σ H := h
theorem x_frZ {n1 n2 : Nat} {b : Addr} {ys : List V} (hq : SqL K H a xs) (hq2 : SqL K H b ys) (hxy : xs.length = ys.length) (Pv : Nat → L2.St → Hp → Prop) (h0 : Pv 0 σ H) (hl : ∀ i σ H, Pv i σ H → SqL K H a xs ∧ SqL K H b ys)
    (hs : ∀ i x y σ H H', xs[i]? = some x → ys[i]? = some y → Pv i σ H → Same H H' → tb { D with nx := Pv (i + 1), ct := Pv (i + 1), bk := D.nx } ((σ.set n1 (some x)).set n2 (some y)) H') (hd : ∀ σ H, Pv xs.length σ H → D.nx σ H) :
    frZ K (gTup K 2 (gCons (gName n1) (gCons (gName n2) gNil))) tb D σ [.ref a, .ref b] H := by
  refine ⟨a, b, xs, ys, rfl, hq, hq2, fun i m σ H => m = xs.length - i ∧ i ≤ xs.length ∧ Pv i σ H, ⟨xs.length, rfl, Nat.zero_le _, h0⟩, ?_⟩
  rintro i m σ H ⟨rfl, hi, p⟩
  obtain ⟨qx, qy⟩ := hl i σ H p
  by_cases hlt : i < xs.length
  · refine .inr ⟨⟨xs, ys, _, _, qx, qy, List.getElem?_eq_getElem hlt, List.getElem?_eq_getElem (by omega)⟩, Pv (i + 1), fun σ' H' p' => ⟨xs.length - (i + 1), by omega, rfl, hlt, p'⟩, fun v H' y => ?_⟩
    obtain ⟨T, x', y', rfl, hT, rfl, f1, f2⟩ := y
    exact x_gtup2 (SqT.of upd_same) (hs i x' y' σ H _ (f1 xs qx) (f2 ys qy) p (same_upd hT))
  · have e : i = xs.length := by omega
    subst e
    exact .inl ⟨⟨xs, ys, qx, qy, Or.inl (Nat.le_refl _)⟩, hd σ H p⟩
/-! comprehensions -/
/-- tuples stay -/
def TupS (H H' : Hp) : Prop := ∀ a xs, H a = some (.tup xs) → H' a = some (.tup xs)
theorem TupS.of {H H' : Hp} (h : Same H H') : TupS H H' := fun a xs e => h a _ e
theorem TupS.trans {H H1 H2 : Hp} (a : TupS H H1) (b : TupS H1 H2) : TupS H H2 := fun c o h => b c o (a c o h)
theorem TupS.upd {H : Hp} {p : Addr} {o o' : HO} (h : H p = some o) (ho : ∀ xs, o ≠ .tup xs) : TupS H (upd H p o') := fun a xs e => by
  rw [upd_ne (ne_of e h (fun z => ho xs z.symm))]; exact e
def lcK (J : It) (g : TG) (tt : TT) (te : TE) (vs : List Nat) (σ : L2.St) (Q : VK) (H1 : Hp) : Prop := ∀ D, H1 D = none → ∃ W : Nat → Nat → Hp → Prop, (∃ m, W 0 m (upd H1 D (.lst []))) ∧ ∀ i m H, W i m H →
  (J.stop i H ∧ Q (.ref D) H) ∨ (J.go i H ∧ ∃ Nx : Hp → Prop, (∀ H', Nx H' → ∃ m', m' < m ∧ W (i + 1) m' H') ∧ ∀ x H', J.yld i H x H' → g x (wipe σ vs) H' fun σ2 H2 => wipe σ2 vs = wipe σ vs ∧ tt σ2 H2 fun b H3 =>
    if b = true then te σ2 H3 fun y H4 => ∃ acc, H4 D = some (.lst acc) ∧ acc.length < sizeLine ∧ Nx (upd H4 D (.lst (acc ++ [y]))) else Nx H3)
def lcL (K : PySem.W.Frag) (g : TG) (tt : TT) (te : TE) (vs : List Nat) (σ : L2.St) (Q : VK) : V → Hp → Prop := fun x H1 => ∃ a, x = .ref a ∧ (∃ xs, SqL K H1 a xs) ∧ lcK (Itl K a) g tt te vs σ Q H1
theorem x_lcL (h : tl σ H (lcL K g tt te vs σ Q)) : tLc (iList K tl) g tt te vs σ H Q := h
/-- what a turn of a comprehension asks -/
def LcTurn (g : TG) (tt : TT) (te : TE) (vs : List Nat) (σ : L2.St) (A : Nat → List V → Hp → Prop) (i : Nat) (x : V) (acc : List V) (H' : Hp) : Prop :=
  ∀ (NY : VK) (NN : Hp → Prop), (∀ y H4, Same H' H4 → A (i + 1) (acc ++ [y]) H4 → NY y H4) → (∀ H3, Same H' H3 → A (i + 1) acc H3 → NN H3) →
    g x (wipe σ vs) H' fun σ2 H2 => wipe σ2 vs = wipe σ vs ∧ tt σ2 H2 fun b H3 => if b = true then te σ2 H3 NY else NN H3
theorem lc_gen {n : Nat} {J : It} (Y : Nat → V → Prop) (A : Nat → List V → Hp → Prop) (hA : ∀ i acc H H', TupS H H' → A i acc H → A i acc H') (hn : n < sizeLine) (h0 : A 0 [] H)
    (hJ : ∀ (Pv : Nat → Hp → Prop) (Dr : Addr), (∀ i H', Pv i H' → Same H H') → Pv 0 (upd H Dr (.lst [])) →
      (∀ i x H', Y i x → Pv i H' → g x (wipe σ vs) H' fun σ2 H2 => wipe σ2 vs = wipe σ vs ∧ tt σ2 H2 fun b H3 =>
        if b = true then te σ2 H3 fun y H4 => ∃ acc, H4 Dr = some (.lst acc) ∧ acc.length < sizeLine ∧ Pv (i + 1) (upd H4 Dr (.lst (acc ++ [y]))) else Pv (i + 1) H3) →
      (∀ H', Pv n H' → Q (.ref Dr) H') → ∃ W : Nat → Nat → Hp → Prop, (∃ m, W 0 m (upd H Dr (.lst []))) ∧ ∀ i m H, W i m H →
        (J.stop i H ∧ Q (.ref Dr) H) ∨ (J.go i H ∧ ∃ Nx : Hp → Prop, (∀ H', Nx H' → ∃ m', m' < m ∧ W (i + 1) m' H') ∧ ∀ x H', J.yld i H x H' → g x (wipe σ vs) H' fun σ2 H2 => wipe σ2 vs = wipe σ vs ∧ tt σ2 H2 fun b H3 =>
          if b = true then te σ2 H3 fun y H4 => ∃ acc, H4 Dr = some (.lst acc) ∧ acc.length < sizeLine ∧ Nx (upd H4 Dr (.lst (acc ++ [y]))) else Nx H3))
    (hs : ∀ i x acc H', Y i x → Same H H' → A i acc H' → LcTurn g tt te vs σ A i x acc H')
    (hY : ∀ i x, Y i x → i < n) (hd : ∀ p acc H', H p = none → Same H H' → H' p = some (.lst acc) → A n acc H' → Q (.ref p) H') : lcK J g tt te vs σ Q H := by
  intro Dr hD
  refine hJ (fun i H' => ∃ acc, H' Dr = some (.lst acc) ∧ acc.length ≤ i ∧ Same H H' ∧ A i acc H') Dr (fun i H' ⟨_, _, _, s, _⟩ => s) ⟨[], upd_same, Nat.le_refl _, same_upd hD, hA _ _ _ _ (TupS.of (same_upd hD)) h0⟩ ?_ ?_
  · rintro i x H' hy ⟨acc, h1, h2, h3, h4⟩
    have hi := hY i x hy
    refine hs i x acc H' hy h3 h4 _ _ (fun y H4 s4 a4 => ?_) (fun H3 s3 a3 => ⟨acc, s3 _ _ h1, Nat.le_succ_of_le h2, h3.trans s3, a3⟩)
    have e4 := s4 _ _ h1
    refine ⟨acc, e4, by omega, acc ++ [y], upd_same, by rw [List.length_append]; exact Nat.add_le_add h2 (Nat.le_refl _), fun b o e => ?_, hA _ _ _ _ (TupS.upd e4 (fun _ z => by cases z)) a4⟩
    rw [upd_ne (ne_of_none e hD)]
    exact s4 _ _ (h3 _ _ e)
  · rintro H' ⟨acc, h1, h2, h3, h4⟩
    exact hd Dr acc H' hD h3 h1 h4
theorem x_lcLK (hq : SqL K H a xs) (A : Nat → List V → Hp → Prop) (hA : ∀ i acc H H', TupS H H' → A i acc H → A i acc H') (hn : xs.length < sizeLine) (h0 : A 0 [] H)
    (hs : ∀ i x acc H', xs[i]? = some x → Same H H' → A i acc H' → LcTurn g tt te vs σ A i x acc H')
    (hd : ∀ p acc H', H p = none → Same H H' → H' p = some (.lst acc) → A xs.length acc H' → Q (.ref p) H') : lcL K g tt te vs σ Q (.ref a) H :=
  ⟨a, rfl, ⟨_, hq⟩, lc_gen (fun i x => xs[i]? = some x) A hA hn h0 (fun Pv Dr hP p0 ht hd => lc_list (K := K) (a := a) (xs := xs) Pv p0 (fun i H' _ p => (hP i H' p).seq hq) ht hd) hs (fun i x h => (List.getElem?_eq_some_iff.mp h).1) hd⟩
def lcR1 (g : TG) (tt : TT) (te : TE) (vs : List Nat) (σ : L2.St) (Q : VK) : List V → Hp → Prop := fun ws H1 => ∃ j : Int, ws = [.int j] ∧ -(2 ^ 62) ≤ j ∧ j < 2 ^ 62 ∧ lcK (Itr 0 j.toNat) g tt te vs σ Q H1
theorem x_lcR1 (h : ta σ H (lcR1 g tt te vs σ Q)) : tLc (iRng1 ta) g tt te vs σ H Q := h
theorem x_lcR1K {j : Int} (A : Nat → List V → Hp → Prop) (hA : ∀ i acc H H', TupS H H' → A i acc H → A i acc H') (hn : 0 ≤ j ∧ j < 1000000) (h0 : A 0 [] H)
    (hs : ∀ i acc H', i < j.toNat → Same H H' → A i acc H' → LcTurn g tt te vs σ A i (.int i) acc H')
    (hd : ∀ p acc H', H p = none → Same H H' → H' p = some (.lst acc) → A j.toNat acc H' → Q (.ref p) H') : lcR1 g tt te vs σ Q [.int j] H :=
  ⟨j, rfl, by omega, by omega, lc_gen (fun i x => i < j.toNat ∧ x = .int i) A hA (Nat.lt_of_lt_of_le (by omega : j.toNat < 1000000) (by decide)) h0
    (fun Pv Dr hP p0 ht hd => lc_range Pv p0 (fun i H' hi p => ht i _ H' ⟨hi, by rw [Int.zero_add]⟩ p) hd) (fun i x acc H' h s a => by rw [h.2]; exact hs i acc H' h.1 s a) (fun i x h => h.1) hd⟩
def lcR2 (g : TG) (tt : TT) (te : TE) (vs : List Nat) (σ : L2.St) (Q : VK) : List V → Hp → Prop := fun ws H1 => ∃ i j : Int, ws = [.int i, .int j] ∧ (-(2 ^ 62) ≤ i ∧ i < 2 ^ 62 ∧ -(2 ^ 62) ≤ j ∧ j < 2 ^ 62) ∧ lcK (Itr i (j - i).toNat) g tt te vs σ Q H1
theorem x_lcR2 (h : ta σ H (lcR2 g tt te vs σ Q)) : tLc (iRng2 ta) g tt te vs σ H Q := h
theorem x_lcR2K {lo j : Int} (A : Nat → List V → Hp → Prop) (hA : ∀ i acc H H', TupS H H' → A i acc H → A i acc H') (hn : -1000000 ≤ lo ∧ lo ≤ j ∧ j < 1000000) (h0 : A 0 [] H)
    (hs : ∀ i acc H', i < (j - lo).toNat → Same H H' → A i acc H' → LcTurn g tt te vs σ A i (.int (lo + i)) acc H')
    (hd : ∀ p acc H', H p = none → Same H H' → H' p = some (.lst acc) → A (j - lo).toNat acc H' → Q (.ref p) H') : lcR2 g tt te vs σ Q [.int lo, .int j] H :=
  ⟨lo, j, rfl, ⟨by omega, by omega, by omega, by omega⟩, lc_gen (fun i x => i < (j - lo).toNat ∧ x = .int (lo + i)) A hA (Nat.lt_of_lt_of_le (by omega : (j - lo).toNat < 2000001) (by decide)) h0
    (fun Pv Dr hP p0 ht hd => lc_range Pv p0 (fun i H' hi p => ht i _ H' ⟨hi, rfl⟩ p) hd) (fun i x acc H' h s a => by rw [h.2]; exact hs i acc H' h.1 s a) (fun i x h => h.1) hd⟩
theorem x_yes {QB : Bool → Hp → Prop} (q : QB true H) : tYes σ H QB := q
/-! methods of built-in types -/
def bmK (K : PySem.W.Frag) (T : String) (r : V → List V → Hp → VK → Prop) (t : TA) (σ : L2.St) (Q : VK) : V → Hp → Prop := fun x H1 => tyV K T x H1 ∧ t σ H1 fun xs H2 => r x xs H2 Q
theorem x_bm {T : String} {r : V → List V → Hp → VK → Prop} {t : TA} (h : te σ H (bmK K T r t σ Q)) : tBM K T r te t σ H Q := h
theorem x_bmL {r : V → List V → Hp → VK → Prop} {t : TA} (hq : SqL K H a xs) (h : t σ H fun ws H2 => r (.ref a) ws H2 Q) : bmK K "list" r t σ Q (.ref a) H := ⟨.inl ⟨rfl, _, hq⟩, h⟩
def bm0K (K : PySem.W.Frag) (T : String) (r : V → List V → Hp → VK → Prop) (Q : VK) : V → Hp → Prop := fun x H1 => tyV K T x H1 ∧ r x [] H1 Q
theorem x_bm0 {T : String} {r : V → List V → Hp → VK → Prop} (h : te σ H (bm0K K T r Q)) : tBM0 K T r te σ H Q := h
theorem x_bm0L {r : V → List V → Hp → VK → Prop} (hq : SqL K H a xs) (h : r (.ref a) [] H Q) : bm0K K "list" r Q (.ref a) H := ⟨.inl ⟨rfl, _, hq⟩, h⟩
theorem x_append {y : V} (h : H a = some (.lst xs)) (q : Q .non (upd H a (.lst (xs ++ [y])))) (hl : xs.length < sizeLine) : rAppend (.ref a) [y] H Q := ⟨a, xs, y, rfl, rfl, h, hl, q⟩
theorem x_clear (h : H a = some (.lst xs)) (q : Q .non (upd H a (.lst []))) : rClear (.ref a) [] H Q := ⟨a, xs, rfl, rfl, h, q⟩
/-! objects -/
theorem x_mk0 {C : Addr} (h : ∀ x dx H1, H x = none → H dx = none → dx ≠ x → Same H H1 → H1 x = some (.ins C dx []) → H1 dx = some (.own x) → Q (.ref x) H1) : tMake0 C σ H Q := fun x dx n nd ne =>
  h x dx _ n nd ne ((same_upd nd).trans (same_upd (by rw [upd_ne (Ne.symm ne)]; exact n))) upd_same (by rw [upd_ne ne, upd_same])
def mkK (C : Addr) (sp : Sp) (dvs : List V) (Q : VK) (E : XK) : List V → Hp → Prop := fun vs H1 => ∀ x dx, H1 x = none → H1 dx = none → dx ≠ x →
  sp (.ref x :: (vs ++ dvs)) (upd (upd H1 dx (.own x)) x (.ins C dx [])) (fun v H2 => v = .non ∧ Q (.ref x) H2) E
theorem x_mkS {C : Addr} {sp : Sp} {dvs : List V} {E : L2.St → XK} {t : TA} (h : t σ H (mkK C sp dvs Q (E σ))) : tMakeS C sp dvs E t σ H Q := h
theorem x_mkK {C : Addr} {sp : Sp} {dvs ws : List V} {E : XK} (h : ∀ x dx H1, H x = none → H dx = none → dx ≠ x → Same H H1 → H1 x = some (.ins C dx []) → H1 dx = some (.own x) → sp (.ref x :: (ws ++ dvs)) H1 (fun v H2 => v = .non ∧ Q (.ref x) H2) E) :
    mkK C sp dvs Q E ws H := fun x dx n nd ne => h x dx _ n nd ne ((same_upd nd).trans (same_upd (by rw [upd_ne (Ne.symm ne)]; exact n))) upd_same (by rw [upd_ne ne, upd_same])
theorem x_methD {P : Program} {w : World} {mg : Str → Option Value} {base : Heap} {CX : CXT} {n : Nat} {m : Str} {E : L2.St → XK} {t : TA} (h : te σ H (mtK P w K mg base CX n m (E σ) σ t Q)) : tMethD P w K mg base CX n m E te t σ H Q := h
theorem x_mtK {P : Program} {w : World} {mg : Str → Option Value} {base : Heap} {CX : CXT} {n : Nat} {m : Str} {E : XK} {t : TA} {C dx : Addr} {fs : List (Str × V)} {sp : Sp} (ho : H a = some (.ins C dx fs)) (hm : MO P w K mg base CX n C m sp) (hl : fs.lookup m = none)
    (h : t σ H fun vs H2 => sp (.ref a :: vs) H2 Q E) : mtK P w K mg base CX n m E σ t Q (.ref a) H := ⟨a, C, dx, fs, sp, rfl, ho, hl, hm, h⟩
def fldK (K : PySem.W.Frag) (f : Str) (Q : VK) : V → Hp → Prop := fun x H1 => ∃ a C dx fs v, x = .ref a ∧ H1 a = some (.ins C dx fs) ∧ Cls K C ∧ NoAttr K C f ∧ fs.lookup f = some v ∧ Q v H1
theorem x_fld {f : Str} (h : te σ H (fldK K f Q)) : tFld K te f σ H Q := h
theorem x_fldK {f : Str} {C dx : Addr} {fs : List (Str × V)} {v : V} (ho : H a = some (.ins C dx fs)) (hl : fs.lookup f = some v) (q : Q v H) (hc : Cls K C) (hn : NoAttr K C f) : fldK K f Q (.ref a) H := ⟨a, C, dx, fs, v, rfl, ho, hc, hn, hl, q⟩
def sfK (K : PySem.W.Frag) (f : Str) (y : V) (D : Ends) (σ : L2.St) : V → Hp → Prop := fun x H2 => ∃ a C dx fs, x = .ref a ∧ H2 a = some (.ins C dx fs) ∧ Cls K C ∧ NoAttr K C f ∧ fs.length < 1000 ∧ D.nx σ (upd H2 a (.ins C dx (putF f y fs)))
theorem x_sfld {f : Str} (h : te σ H fun y H1 => tl σ H1 (sfK K f y D σ)) : sFld K tl te f D σ H := h
theorem x_sfK {f : Str} {C dx : Addr} {fs fs' : List (Str × V)} {y : V} (ho : H a = some (.ins C dx fs)) (hf : putF f y fs = fs') (q : D.nx σ (upd H a (.ins C dx fs'))) (hc : Cls K C) (hn : NoAttr K C f) (hl : fs.length < 1000) : sfK K f y D σ (.ref a) H :=
  ⟨a, C, dx, fs, rfl, ho, hc, hn, hl, by rw [hf]; exact q⟩
end
theorem _root_.L2.FunD.okX {P : Program} {w : World} {K : PySem.W.Frag} {mg : Str → Option Value} {base : Heap} {x qual : Str} {st : Stmt} {f : Addr} {fd : FuncData} {dvs : List V} {kws : List (Str × V)} {N ps : List Str} {k : Nat} {sp : Sp}
    (F : FunD K x qual (defArgs st) (defBody st) (defScope st) dvs kws f fd) (S : FnScope N ps (defScope st)) (len : ∀ vs H Q E, sp vs H Q E → vs.length = ps.length)
    (hbody : ∀ (cdv : Value) (A : Around) (outer : List Env) (s : Shared) (H : Hp) (vs : List V) (Q : VK) (E : XK), Room k (A.deeper (envOfC qual (defScope st) s.heap.objs.size f cdv)) → sp vs H Q E →
      ∃ t, PSs (cxOf (L2.CX P w) P w K mg base N qual (defScope st) f cdv A outer s H E) (defBody st) t ∧ t { nx := fun _ H' => Q .non H', rt := Q } (start N vs) H) : FnOk P w K mg base (L2.CX P w) (k + 1) f fd ps sp := F.ok S len hbody
/-! ### fields added to, while, is, in -/
section
variable {σ : L2.St} {H : Hp} {K : PySem.W.Frag} {D : Ends} {ta tv te : TE} {tb : TS} {tc : TT} {a : Addr} {Q : VK} {x y : V} {f : Str} {rd : V → V → Hp → VK → Prop}
/-- all but what stands at S stays -/
def Off (S : List Addr) (H H' : Hp) : Prop := ∀ b o, b ∉ S → H b = some o → H' b = some o
theorem Off.refl {S : List Addr} : Off S H H := fun _ _ _ h => h
theorem Off.of {S : List Addr} {H' : Hp} (s : Same H H') : Off S H H' := fun b o _ h => s b o h
theorem Off.trans {S : List Addr} {H1 H2 : Hp} (h1 : Off S H H1) (h2 : Off S H1 H2) : Off S H H2 := fun b o n h => h2 b o n (h1 b o n h)
theorem Off.sub {S S' : List Addr} {H' : Hp} (h : Off S H H') (hs : ∀ b, b ∈ S → b ∈ S') : Off S' H H' := fun b o n e => h b o (fun m => n (hs b m)) e
theorem Off.same {S : List Addr} {H1 H2 : Hp} (s : Same H H1) (h : Off S H1 H2) (n : ∀ b, b ∈ S → H b = none) : Same H H2 := fun b o e => h b o (fun m => by rw [n b m] at e; cases e) (s b o e)
theorem same_none {H' : Hp} {b : Addr} (s : Same H H') (h : H' b = none) : H b = none := by
  cases e : H b with
  | none => rfl
  | some o => rw [s _ _ e] at h; cases h
theorem Off.same1 {H1 H2 : Hp} (s : Same H H1) (h : Off [a] H1 H2) (n : H a = none) : Same H H2 := h.same s fun b hb => by rw [List.mem_singleton] at hb; rw [hb]; exact n
theorem Off.at {S : List Addr} {H1 : Hp} {b : Addr} {o : HO} (h : Off S H H1) (e : H b = some o) (n : b ∉ S) : H1 b = some o := h b o n e
theorem Off.upd {S : List Addr} {o : HO} (h : a ∈ S) : Off S H (upd H a o) := fun b u n e => by
  rw [upd_ne (fun z => n (by rw [z]; exact h))]; exact e
theorem Off.lst {r : Addr} {H H' : Hp} {C dx : Addr} {fs : List (Str × V)} {a : Addr} {xs : List V} (s : Off [r] H H') (hr : H r = some (.ins C dx fs)) (h : H a = some (.lst xs)) : H' a = some (.lst xs) := s a _ (fun m => by
  rw [List.mem_singleton] at m; subst m; rw [hr] at h; cases h) h
theorem Off.tup {r : Addr} {H H' : Hp} {C dx : Addr} {fs : List (Str × V)} {a : Addr} {xs : List V} (s : Off [r] H H') (hr : H r = some (.ins C dx fs)) (h : H a = some (.tup xs)) : H' a = some (.tup xs) := s a _ (fun m => by
  rw [List.mem_singleton] at m; subst m; rw [hr] at h; cases h) h
theorem Off.ins {r : Addr} {H H' : Hp} {a : Addr} {o : HO} (s : Off [r] H H') (hne : a ≠ r) (h : H a = some o) : H' a = some o := s a _ (fun m => hne (List.mem_singleton.mp m)) h
theorem Off.tups {r : Addr} {H H' : Hp} {C dx : Addr} {fs : List (Str × V)} (s : Off [r] H H') (hr : H r = some (.ins C dx fs)) : TupS H H' := fun a xs h => s.tup hr h
def f3K (a C : Addr) (f : Str) (D : Ends) (σ : L2.St) : VK := fun z H3 => ∃ dx' fs', H3 a = some (.ins C dx' fs') ∧ fs'.length < 1000 ∧ D.nx σ (upd H3 a (.ins C dx' (putF f z fs')))
def faK (K : PySem.W.Frag) (tv : TE) (rd : V → V → Hp → VK → Prop) (f : Str) (D : Ends) (σ : L2.St) : V → Hp → Prop := fun x H1 => ∃ a C dx fs v, x = .ref a ∧ H1 a = some (.ins C dx fs) ∧ Cls K C ∧ NoAttr K C f ∧ fs.lookup f = some v ∧
  tv σ H1 fun y H2 => rd v y H2 (f3K a C f D σ)
theorem x_fldAug (h : ta σ H (faK K tv rd f D σ)) : sFldAug K ta tv rd f D σ H := h
theorem x_faK {C dx : Addr} {fs : List (Str × V)} {v : V} (ho : H a = some (.ins C dx fs)) (hl : fs.lookup f = some v) (q : tv σ H fun y H2 => rd v y H2 (f3K a C f D σ)) (hc : Cls K C) (hn : NoAttr K C f) : faK K tv rd f D σ (.ref a) H := ⟨a, C, dx, fs, v, rfl, ho, hc, hn, hl, q⟩
theorem x_f3K {C dx : Addr} {fs fs' : List (Str × V)} {z : V} (ho : H a = some (.ins C dx fs)) (hf : putF f z fs = fs') (q : D.nx σ (upd H a (.ins C dx fs'))) (hl : fs.length < 1000) : f3K a C f D σ z H := ⟨dx, fs, ho, hl, by rw [hf]; exact q⟩
theorem putF_new {f : Str} {y : V} : ∀ {fs : List (Str × V)}, fs.lookup f = none → putF f y fs = fs ++ [(f, y)]
  | [], _ => rfl
  | (g, x) :: r, h => by
    rw [List.lookup_cons] at h
    by_cases e : f = g
    · subst e; simp at h
    · rw [show (f == g) = false from beq_eq_false_iff_ne.mpr e] at h
      show (if g = f then _ else _) = _
      rw [if_neg (Ne.symm e), putF_new h]
      rfl
/-- self.f = y, f new -/
theorem x_sfN {C dx : Addr} {fs : List (Str × V)} (ho : H a = some (.ins C dx fs)) (hf : fs.lookup f = none) (q : ∀ H1, Off [a] H H1 → H1 a = some (.ins C dx (fs ++ [(f, y)])) → D.nx σ H1) (hc : Cls K C) (hn : NoAttr K C f) (hl : fs.length < 1000) : sfK K f y D σ (.ref a) H :=
  ⟨a, C, dx, fs, rfl, ho, hc, hn, hl, by rw [putF_new hf]; exact q _ (Off.upd (List.mem_singleton.mpr rfl)) upd_same⟩
/-- self.f = y, f there -/
theorem x_sfO {C dx : Addr} {fs fs' : List (Str × V)} (ho : H a = some (.ins C dx fs)) (hf : putF f y fs = fs') (q : ∀ H1, Off [a] H H1 → H1 a = some (.ins C dx fs') → D.nx σ H1) (hc : Cls K C) (hn : NoAttr K C f) (hl : fs.length < 1000) : sfK K f y D σ (.ref a) H :=
  ⟨a, C, dx, fs, rfl, ho, hc, hn, hl, by rw [hf]; exact q _ (Off.upd (List.mem_singleton.mpr rfl)) upd_same⟩
theorem x_gsub {to ti : TE} {t : TSet} {v : V} {QS : L2.St → Hp → Prop} (h : to σ H fun o H1 => ti σ H1 fun i H2 => t o i v H2 fun H3 => QS σ H3) : gSub to ti t v σ H QS := h
theorem x_setL {xs : List V} {k : Int} {v : V} {QS : Hp → Prop} (hp : H a = some (.lst xs)) (q : ∀ H1, Off [a] H H1 → H1 a = some (.lst (xs.set k.toNat v)) → QS H1) (h0 : 0 ≤ k) (h1 : k < xs.length) : rSetL (.ref a) (.int k) v H QS :=
  ⟨a, xs, k, k.toNat, rfl, rfl, hp, by unfold ixN; rw [if_pos h0, if_pos h1], q _ (Off.upd (List.mem_singleton.mpr rfl)) upd_same⟩
/-- xs[i] of an augmented store -/
def rGetL (K : PySem.W.Frag) : V → V → Hp → VK → Prop := fun o i H Q => ∃ p xs k v, o = .ref p ∧ i = .int k ∧ SqL K H p xs ∧ 0 ≤ k ∧ xs[k.toNat]? = some v ∧ Q v H
theorem get_list {X : Cx} : PGet X (rGetL X.K) := by
  intro pins s σ H o i ov iv Q I ro ri h
  obtain ⟨p, xs, k, v, rfl, rfl, hq, h0, he, q⟩ := h
  cases ro
  obtain ⟨t, rfl⟩ := ri
  obtain ⟨its, r, pl, hz⟩ := I.list hq
  obtain ⟨w, ew, rw'⟩ := r.get he
  have hl := r.length
  have hn := line63
  have hlt := (List.getElem?_eq_some_iff.mp he).1
  exact wpAny_getItem_list pl.isList h0 (by omega) (by simpa using ew) ⟨v, H, I, rw', q⟩
theorem x_augS {to ti te : TE} {tget : V → V → Hp → VK → Prop} {tip : TIp} {tset : TSet} (h : to σ H fun o H1 => ti σ H1 fun i H2 => tget o i H2 fun x H3 => te σ H3 fun y H4 => tip x y H4 fun z H5 => tset o i z H5 fun H6 => D.nx σ H6) : tAugS to ti te tget tip tset D σ H := h
theorem x_seqAS {to ti te : TE} {tget : V → V → Hp → VK → Prop} {tip : TIp} {tset : TSet} {u : TS} (h : tAugS to ti te tget tip tset { D with nx := u D } σ H) : tSeq (tAugS to ti te tget tip tset) u D σ H := h
theorem x_getL {xs : List V} {k : Int} (h : SqL K H a xs) (q : Q (xs.getD k.toNat .non) H) (h0 : 0 ≤ k) (h1 : k < xs.length) : rGetL K (.ref a) (.int k) H Q := ⟨a, xs, k, _, rfl, rfl, h, h0, by
  have hn : k.toNat < xs.length := by omega
  simp [hn], q⟩
theorem x_getI {ns : List Int} {k : Int} (h : SqL K H a (ns.map V.int)) (q : Q (.int (ns.getD k.toNat 0)) H) (h0 : 0 ≤ k) (h1 : k < ns.length) : rGetL K (.ref a) (.int k) H Q := ⟨a, _, k, _, rfl, rfl, h, h0, by
  have hn : k.toNat < ns.length := by omega
  simp [hn], q⟩
theorem x_rSub {m n : Int} (q : Q (.int (m - n)) H) : rSub (.int m) (.int n) H Q := ⟨m, n, rfl, rfl, q⟩
/-- == and != of scalars of any kinds -/
theorem x_eqSc (h : scal x y = true) (q : Q (.bl (decide (x = y))) H) : uEq K x y H Q := .inl ⟨h, q⟩
theorem x_neSc (h : scal x y = true) (q : Q (.bl (!decide (x = y))) H) : uNe K x y H Q := .inl ⟨h, q⟩
/-- xs[i] by values that are named otherwise -/
theorem x_ixF {α : Type} {l : List α} {g : α → V} {k : Int} (d : α) (h : SqL K H a (l.map g)) (q : Q (g (l.getD k.toNat d)) H) (h0 : 0 ≤ k) (h1 : k < l.length) : rIx K (.ref a) (.int k) H Q := by
  have hn : k.toNat < l.length := by omega
  refine x_ixL h ?_ h0 (by rw [List.length_map]; exact h1)
  rw [show (l.map g).getD k.toNat .non = g (l.getD k.toNat d) by simp [hn]]
  exact q
theorem x_f3O {C dx : Addr} {fs fs' : List (Str × V)} {z : V} (ho : H a = some (.ins C dx fs)) (hf : putF f z fs = fs') (q : ∀ H1, Off [a] H H1 → H1 a = some (.ins C dx fs') → D.nx σ H1) (hl : fs.length < 1000) : f3K a C f D σ z H := ⟨dx, fs, ho, hl, by rw [hf]; exact q _ (Off.upd (List.mem_singleton.mpr rfl)) upd_same⟩
theorem nin_of {b : Addr} (h : b ≠ a) : b ∉ [a] := fun z => h (List.mem_singleton.mp z)
theorem x_appO {xs : List V} (h : H a = some (.lst xs)) (q : ∀ H1, Off [a] H H1 → H1 a = some (.lst (xs ++ [y])) → Q .non H1) (hl : xs.length < sizeLine) : rAppend (.ref a) [y] H Q := ⟨a, xs, y, rfl, rfl, h, hl, q _ (Off.upd (List.mem_singleton.mpr rfl)) upd_same⟩
theorem str_len {n : Int} (h0 : 0 ≤ n) (h1 : n < 300) : (Str.ofString (toString n)).length ≤ 20 := by
  have k : ∀ m : Nat, m < 300 → (Str.ofString (toString (m : Int))).length ≤ 20 := by decide +kernel
  have := k n.toNat (by omega)
  rwa [show ((n.toNat : Nat) : Int) = n by omega] at this
theorem small_log {n : Int} (h0 : 0 ≤ n) (h1 : n < 1000000) : n.natAbs.log2 < 1920 := by
  by_cases e : n.natAbs = 0
  · rw [e]; decide
  · exact (Nat.log2_lt e).mpr (Nat.lt_of_lt_of_le (show n.natAbs < 2 ^ 20 by omega) (Nat.pow_le_pow_right (by decide) (by decide)))
theorem x_ixB {bs : List Bool} {k : Int} (h : SqL K H a (bs.map V.bl)) (q : Q (.bl (bs.getD k.toNat false)) H) (h0 : 0 ≤ k) (h1 : k < bs.length) : rIx K (.ref a) (.int k) H Q := x_ixF false h q h0 h1
theorem off_none {r b : Addr} {H1 : Hp} (h : Off [r] H H1) (n : H1 b = none) (hne : b ≠ r) : H b = none := by
  cases e : H b with
  | none => rfl
  | some o => rw [h.at e (nin_of hne)] at n; cases n
theorem x_clearO {xs : List V} (h : H a = some (.lst xs)) (q : ∀ H1, Off [a] H H1 → H1 a = some (.lst []) → Q .non H1) : rClear (.ref a) [] H Q := ⟨a, xs, rfl, rfl, h, q _ (Off.upd (List.mem_singleton.mpr rfl)) upd_same⟩
theorem line_len {n : Nat} (h : n ≤ 1000) : n ≤ sizeLine := Nat.le_trans h (by decide)
/-- or of two tests that only look -/
theorem x_orK {t u : TT} {QB : Bool → Hp → Prop} {b1 b2 : Bool} (h1 : ∀ QB : Bool → Hp → Prop, QB b1 H → t σ H QB) (h2 : ∀ QB : Bool → Hp → Prop, QB b2 H → u σ H QB) (q : QB (b1 || b2) H) : tOr t u σ H QB := by
  refine x_or (h1 _ ?_)
  cases b1 with
  | true => exact q
  | false => exact h2 _ q
theorem x_rAdd {m n : Int} (q : Q (.int (m + n)) H) : rAdd (.int m) (.int n) H Q := ⟨m, n, rfl, rfl, q⟩
theorem x_aug {i : Nat} {ti : TIp} (h : σ[i]? = some (some x)) (q : te σ H fun y H1 => ti x y H1 fun z H2 => D.nx (σ.set i (some z)) H2) : tAug i te ti D σ H := ⟨x, h, q⟩
theorem x_ipI {g : Int → Int → Int} {m n : Int} (q : Q (.int (g m n)) H) : ipI g (.int m) (.int n) H Q := ⟨m, n, rfl, rfl, q⟩
def whK (W : Nat → L2.St → Hp → Prop) (tb : TS) (D : Ends) (m : Nat) (σ : L2.St) : Bool → Hp → Prop := fun b H1 => if b = true then ∃ N : L2.St → Hp → Prop, (∀ σ' H', N σ' H' → ∃ m', m' < m ∧ W m' σ' H') ∧ tb { D with nx := N, ct := N, bk := D.nx } σ H1 else D.nx σ H1
theorem x_whl (W : Nat → L2.St → Hp → Prop) (m : Nat) (h0 : W m σ H) (hs : ∀ m σ H, W m σ H → tc σ H (whK W tb D m σ)) : tWhile tc tb D σ H := ⟨W, ⟨m, h0⟩, hs⟩
theorem x_whD {W : Nat → L2.St → Hp → Prop} {m : Nat} {p : Prop} [Decidable p] (h1 : p → ∀ N : L2.St → Hp → Prop, (∀ m' σ' H', m' < m → W m' σ' H' → N σ' H') → tb { D with nx := N, ct := N, bk := D.nx } σ H) (h2 : ¬ p → D.nx σ H) : whK W tb D m σ (decide p) H := by
  unfold whK
  refine x_iteD (fun h => ?_) h2
  exact ⟨fun σ' H' => ∃ m', m' < m ∧ W m' σ' H', fun _ _ n => n, h1 h _ fun m' σ' H' l w => ⟨m', l, w⟩⟩
theorem x_isN (q : Q (.bl (decide (x = .non))) H) : uIs x .non H Q := .inl ⟨rfl, q⟩
theorem x_isNotN (q : Q (.bl (!decide (x = .non))) H) : uIsNot x .non H Q := .inl ⟨rfl, q⟩
theorem x_isB {b c : Bool} (q : Q (.bl (decide (b = c))) H) : uIs (.bl b) (.bl c) H Q := .inr ⟨b, c, rfl, rfl, q⟩
theorem x_isNotB {b c : Bool} (q : Q (.bl (!decide (b = c))) H) : uIsNot (.bl b) (.bl c) H Q := .inr ⟨b, c, rfl, rfl, q⟩
theorem inV_int (n : Int) (ns : List Int) : inV (.int n) (ns.map V.int) = decide (n ∈ ns) := by
  unfold inV
  induction ns with
  | nil => rfl
  | cons m ns ih =>
    rw [List.map_cons, List.any_cons, ih]
    have e : eqV (.int m) (.int n) = decide (n = m) := by
      show (m == n) = _
      rw [Bool.eq_iff_iff, beq_iff_eq, decide_eq_true_iff]
      exact ⟨Eq.symm, Eq.symm⟩
    rw [e, ← Bool.decide_or, decide_eq_decide, List.mem_cons]
theorem flat_ints (ns : List Int) : (ns.map V.int).all flatV = true := by
  rw [List.all_eq_true]
  intro x h
  obtain ⟨n, _, rfl⟩ := List.mem_map.mp h
  rfl
theorem x_inI {n : Int} {ns : List Int} (h : SqL K H a (ns.map V.int)) (q : Q (.bl (decide (n ∈ ns))) H) : uIn K (.int n) (.ref a) H Q := ⟨a, _, rfl, .inl h, rfl, flat_ints ns, by rw [inV_int] <;> exact q⟩
theorem x_notInI {n : Int} {ns : List Int} (h : SqL K H a (ns.map V.int)) (q : Q (.bl (!decide (n ∈ ns))) H) : uNotIn K (.int n) (.ref a) H Q := ⟨a, _, rfl, .inl h, rfl, flat_ints ns, by rw [inV_int] <;> exact q⟩
end
/-! ### dicts of text keys -/
section
variable {σ : L2.St} {H : Hp} {K : PySem.W.Frag} {D : Ends} {td ty tv : TE} {a : Addr} {Q : VK} {x v : V} {z : Str} {kvs kvs' : List (L2.Key × V)}
def dgK (x : V) (Q : VK) : V → Hp → Prop := fun y H2 => ∃ a v, x = .ref a ∧ DGet H2 a y (some v) ∧ Q v H2
theorem x_dget (h : td σ H fun x H1 => ty σ H1 (dgK x Q)) : tDGet td ty σ H Q := h
theorem x_dgS (h : H a = some (.dK kvs)) (hv : valV kvs (.inr z) = some v) (q : Q v H) : dgK (.ref a) Q (.str z) H := ⟨a, v, rfl, by rw [← hv]; exact DGet.k (k := .inr z) h, q⟩
theorem x_dgI {n : Int} (h : H a = some (.dK kvs)) (hv : valV kvs (.inl n) = some v) (q : Q v H) : dgK (.ref a) Q (.int n) H := ⟨a, v, rfl, by rw [← hv]; exact DGet.k (k := .inl n) h, q⟩
def dpK (x v : V) (D : Ends) (σ : L2.St) : V → Hp → Prop := fun y H3 => ∃ a H4, x = .ref a ∧ DPut H3 a y v H4 ∧ D.nx σ H4
theorem x_dput (h : tv σ H fun v H1 => td σ H1 fun x H2 => ty σ H2 (dpK x v D σ)) : sDPut td ty tv D σ H := h
theorem x_seqDP {u : TS} (h : sDPut td ty tv { D with nx := u D } σ H) : tSeq (sDPut td ty tv) u D σ H := h
theorem x_dpS (h : H a = some (.dK kvs)) (hk : putK kvs (.inr z) v = kvs') (q : ∀ H1, Off [a] H H1 → H1 a = some (.dK kvs') → D.nx σ H1) (hl : kvs.length ≤ 1000) : dpK (.ref a) v D σ (.str z) H :=
  ⟨a, _, rfl, DPut.k (k := .inr z) h (Nat.lt_of_le_of_lt hl (by decide)), by rw [hk]; exact q _ (Off.upd (List.mem_singleton.mpr rfl)) upd_same⟩
theorem x_dpI {n : Int} (h : H a = some (.dK kvs)) (hk : putK kvs (.inl n) v = kvs') (q : ∀ H1, Off [a] H H1 → H1 a = some (.dK kvs') → D.nx σ H1) (hl : kvs.length ≤ 1000) : dpK (.ref a) v D σ (.int n) H :=
  ⟨a, _, rfl, DPut.k (k := .inl n) h (Nat.lt_of_le_of_lt hl (by decide)), by rw [hk]; exact q _ (Off.upd (List.mem_singleton.mpr rfl)) upd_same⟩
/-- {k: v, ..} -/
def dspK (p : Addr) (Q : VK) : List (V × V) → Hp → Prop := fun ps H2 => H2 p = some (.dK []) ∧ ∃ kvs : List (L2.Key × V), ps = kvs.map (fun kv => (kV kv.1, kv.2)) ∧ kvs.length ≤ 15 ∧ Q (.ref p) (upd H2 p (.dK (mergeK [] kvs)))
theorem x_disp {trs : List (TE × TE)} (h : ∀ p H1, H p = none → Same H H1 → H1 p = some (.dK []) → tPairs trs σ H1 (dspK p Q)) : tDisp trs σ H Q := fun p hp => h p _ hp (same_upd hp) upd_same
theorem x_prN {QP : List (V × V) → Hp → Prop} (q : QP [] H) : tPairs [] σ H QP := q
theorem x_prC {tk tv : TE} {r : List (TE × TE)} {QP : List (V × V) → Hp → Prop} (q : tk σ H fun x H1 => tv σ H1 fun y H2 => tPairs r σ H2 fun ps H3 => QP ((x, y) :: ps) H3) : tPairs ((tk, tv) :: r) σ H QP := q
theorem x_dspK {ps : List (V × V)} (kvs : List (L2.Key × V)) (h : H a = some (.dK [])) (e : ps = kvs.map (fun kv => (kV kv.1, kv.2))) (hl : kvs.length ≤ 15) (hm : mergeK [] kvs = kvs') (q : ∀ H1, Off [a] H H1 → H1 a = some (.dK kvs') → Q (.ref a) H1) : dspK a Q ps H :=
  ⟨h, kvs, e, hl, by rw [hm]; exact q _ (Off.upd (List.mem_singleton.mpr rfl)) upd_same⟩
theorem x_dnew (h : ∀ p H1, H p = none → Same H H1 → H1 p = some (.dK []) → Q (.ref p) H1) : tDNewK σ H Q := fun p hp => h p _ hp (same_upd hp) upd_same
/-! k in d, d.get(k), d.get(k, x), d.setdefault(k, x), d.pop(k), d.pop(k, x) -/
def dinK (y : V) (Q : VK) : V → Hp → Prop := fun x H2 => ∃ a o, x = .ref a ∧ DGet H2 a y o ∧ Q (.bl o.isSome) H2
theorem x_din (h : ty σ H fun y H1 => td σ H1 (dinK y Q)) : tDIn ty td σ H Q := h
theorem x_dinI {n : Int} (h : H a = some (.dK kvs)) (q : Q (.bl (valV kvs (.inl n)).isSome) H) : dinK (.int n) Q (.ref a) H := ⟨a, _, rfl, DGet.k (k := .inl n) h, q⟩
def dg1E (a : Addr) (Q : VK) : V → Hp → Prop := fun y H2 => ∃ o, DGet H2 a y o ∧ Q (o.getD .non) H2
def dg1K (ty : TE) (Q : VK) (σ : L2.St) : V → Hp → Prop := fun x H1 => ∃ a, x = .ref a ∧ IsD H1 a ∧ ty σ H1 (dg1E a Q)
theorem x_dget1 (h : td σ H (dg1K ty Q σ)) : tDGet1 td ty σ H Q := h
theorem x_dg1K (h : H a = some (.dK kvs)) (q : ty σ H (dg1E a Q)) : dg1K ty Q σ (.ref a) H := ⟨a, rfl, .inl ⟨kvs, .inl h⟩, q⟩
theorem x_dg1I {n : Int} (h : H a = some (.dK kvs)) (q : Q ((valV kvs (.inl n)).getD .non) H) : dg1E a Q (.int n) H := ⟨_, DGet.k (k := .inl n) h, q⟩
def dsE (a : Addr) (Q : VK) (y : V) : V → Hp → Prop := fun z H3 => ∃ (kvs : List (L2.Key × V)) (k : L2.Key), H3 a = some (.dK kvs) ∧ y = kV k ∧ kvs.length < sizeLine ∧ (∀ v, valV kvs k = some v → Q v H3) ∧ (valV kvs k = none → Q z (L2.upd H3 a (.dK (putK kvs k z))))
def dsK (ty tx : TE) (Q : VK) (σ : L2.St) : V → Hp → Prop := fun x H1 => ∃ a, x = .ref a ∧ IsD H1 a ∧ ty σ H1 fun y H2 => tx σ H2 (dsE a Q y)
theorem x_dsetd {tx : TE} (h : td σ H (dsK ty tx Q σ)) : tDSetd td ty tx σ H Q := h
theorem x_dsK {tx : TE} (h : H a = some (.dK kvs)) (q : ty σ H fun y H2 => tx σ H2 (dsE a Q y)) : dsK ty tx Q σ (.ref a) H := ⟨a, rfl, .inl ⟨kvs, .inl h⟩, q⟩
theorem x_dsI {n : Int} (h : H a = some (.dK kvs)) (hl : kvs.length ≤ 1000) (q1 : ∀ u, valV kvs (.inl n) = some u → Q u H) (q2 : valV kvs (.inl n) = none → ∀ H1, Off [a] H H1 → H1 a = some (.dK (putK kvs (.inl n) v)) → Q v H1) : dsE a Q (.int n) v H :=
  ⟨kvs, .inl n, h, rfl, Nat.lt_of_le_of_lt hl (by decide), q1, fun hn => q2 hn _ (Off.upd (List.mem_singleton.mpr rfl)) upd_same⟩
def dpp1E (a : Addr) (Q : VK) : V → Hp → Prop := fun y H2 => ∃ kvs k v, H2 a = some (.dK kvs) ∧ y = kV k ∧ valV kvs k = some v ∧ Q v (L2.upd H2 a (.dK (dropK kvs k)))
def dpp1K (ty : TE) (Q : VK) (σ : L2.St) : V → Hp → Prop := fun x H1 => ∃ a, x = .ref a ∧ IsD H1 a ∧ ty σ H1 (dpp1E a Q)
theorem x_dpop1 (h : td σ H (dpp1K ty Q σ)) : tDPop1 td ty σ H Q := h
theorem x_dpp1K (h : H a = some (.dK kvs)) (q : ty σ H (dpp1E a Q)) : dpp1K ty Q σ (.ref a) H := ⟨a, rfl, .inl ⟨kvs, .inl h⟩, q⟩
theorem x_dpp1I {n : Int} (h : H a = some (.dK kvs)) (hv : valV kvs (.inl n) = some v) (q : ∀ H1, Off [a] H H1 → H1 a = some (.dK (dropK kvs (.inl n))) → Q v H1) : dpp1E a Q (.int n) H := ⟨kvs, .inl n, v, h, rfl, hv, q _ (Off.upd (List.mem_singleton.mpr rfl)) upd_same⟩
def dpp2E (a : Addr) (Q : VK) (y : V) : V → Hp → Prop := fun z H3 => ∃ kvs k, H3 a = some (.dK kvs) ∧ y = kV k ∧ (∀ v, valV kvs k = some v → Q v (L2.upd H3 a (.dK (dropK kvs k)))) ∧ (valV kvs k = none → Q z H3)
def dpp2K (ty tx : TE) (Q : VK) (σ : L2.St) : V → Hp → Prop := fun x H1 => ∃ a, x = .ref a ∧ IsD H1 a ∧ ty σ H1 fun y H2 => tx σ H2 (dpp2E a Q y)
theorem x_dpop2 {tx : TE} (h : td σ H (dpp2K ty tx Q σ)) : tDPop2 td ty tx σ H Q := h
theorem x_dpp2K {tx : TE} (h : H a = some (.dK kvs)) (q : ty σ H fun y H2 => tx σ H2 (dpp2E a Q y)) : dpp2K ty tx Q σ (.ref a) H := ⟨a, rfl, .inl ⟨kvs, .inl h⟩, q⟩
theorem x_dpp2I {n : Int} (h : H a = some (.dK kvs)) (q1 : ∀ u, valV kvs (.inl n) = some u → ∀ H1, Off [a] H H1 → H1 a = some (.dK (dropK kvs (.inl n))) → Q u H1) (q2 : valV kvs (.inl n) = none → Q v H) : dpp2E a Q (.int n) v H :=
  ⟨kvs, .inl n, h, rfl, fun u hu => q1 u hu _ (Off.upd (List.mem_singleton.mpr rfl)) upd_same, q2⟩
/-- what a dict of whole numbers tells behind a new pair -/
theorem valV_put_self {kvs : List (L2.Key × V)} {k : L2.Key} (hn : valV kvs k = none) : putK kvs k v = kvs ++ [(k, v)] := by
  unfold putK
  rw [valV_any, hn]
  rfl
end
/-! ### exceptions -/
section
variable {X : Cx} {K : PySem.W.Frag} {W Wout : WX} {D : Ends} {σ : L2.St} {H : Hp} {cls c : Value} {d : Option Addr} {a C fI : Addr} {Q : VK}
/-- an exception class without an own __init__ -/
structure XC (K : PySem.W.Frag) (C : Addr) : Prop where
  q : PySem.W.excIn K C [.type "ValueError", .type "Exception", .type "BaseException", .type "object"] "ValueError.__new__" = true
  k : PySem.W.keepIn K (.ref C) = true
  r : PySem.W.subIn K (.ref C) (.type "BaseException") = some true
  t : PySem.W.typeIn K (.ref C) = some (.type "type")
/-- one with an own __init__ -/
structure XI (K : PySem.W.Frag) (C fI : Addr) : Prop where
  o : OexC K C
  i : PySem.W.findIn K (.ref C) "__init__" = some (some (.ref fI))
  t : PySem.W.typeIn K (.ref fI) = some (.type "function")
  f : XfC K C
def tRaise (t : L2.St → Hp → XK → Prop) (W : WX) : TS := fun _ σ H => t σ H fun cls d H' => W cls d σ H'
theorem ps_raiseK {e : Expr} {t : L2.St → Hp → XK → Prop} {pos : Pos} (hc : X.calm = true) (tk : Takes X W) (he : PMk X e t) : PS X (.Raise (some e) none pos) (tRaise t W) := ps_raise hc tk he
def tMkE (C : Addr) : L2.St → Hp → XK → Prop := fun _ H Q => Q (.ref C) none H
theorem pmk_ownK {x m : Str} {j : Nat} {p p2 pos : Pos} (T : XC X.K C) (gC : X.mg x = some (.ref C)) (hg : Gl X x) (hdb : (x == ("__debug__" : Str)) = false := by decide) : PMk X (.Call (.Name x p) [.Constant (.str m) j p2] [] pos) (tMkE C) :=
  pmk_own PySem.F.excBase_ValueError T.q gC T.k (raises_own T.r T.t) hg hdb
theorem x_raise {t : L2.St → Hp → XK → Prop} (h : t σ H fun cls d H' => W cls d σ H') : tRaise t W D σ H := h
theorem x_seqR {t : L2.St → Hp → XK → Prop} {u : TS} (h : tRaise t W { D with nx := u D } σ H) : tSeq (tRaise t W) u D σ H := h
theorem x_mkE {Q : XK} (q : Q (.ref C) none H) : tMkE C σ H Q := q
def tTry1 (K : PySem.W.Frag) (c : Value) (tb : WX → TS) (ts : Addr → Value → Option Addr → TS) (Wout : WX) : TS := fun D σ H => tb (wOnly K c ts Wout D) D σ H
theorem x_try1 {tb : WX → TS} {ts : Addr → Value → Option Addr → TS} (h : tb (wOnly K c ts Wout D) D σ H) : tTry1 K c tb ts Wout D σ H := h
theorem x_seqT1 {tb : WX → TS} {ts : Addr → Value → Option Addr → TS} {u : TS} (h : tTry1 K c tb ts Wout { D with nx := u D } σ H) : tSeq (tTry1 K c tb ts Wout) u D σ H := h
theorem ps_try1 {x : Str} {body suite : List Stmt} {b₀ : Stmt} {np pos pos' : Pos} {tb : WX → TS} {ts : Addr → Value → Option Addr → TS} (hs : X.stack = X.env :: X.outer) (hf : X.env.frame = some X.env.locals) (hc : Names X x c) (tk : Takes X Wout)
    (hb : ∀ (W : WX) (pn : List (Addr × Obj)) (xe : Value → Shared → Prop), Takes (X.tr pn xe) W → PassesOwn (model X.prog X.w) X.A X.env xe → PSs (X.tr pn xe) body (tb W))
    (hsu : ∀ (a : Addr) (oe : Obj) (cls : Value) (d : Option Addr) (pn : List (Addr × Obj)), Zc cls d oe → (∃ vs, oe.data = .fields vs) → PSs (X.suite a ((a, oe) :: pn)) (b₀ :: suite) (ts a cls d)) :
    PS X (.Try body [.ExceptHandler (some (.Name x np)) none (b₀ :: suite) pos'] [] [] pos) (tTry1 X.K c tb ts Wout) := ps_try_only hs hf hc tk hb hsu
theorem x_onlyT {ts : Addr → Value → Option Addr → TS} (hx : PySem.W.exmOne K cls c = some true) (q : ∀ a, H a = none → ts a cls d D σ H) : wOnly K c ts Wout D cls d σ H := ⟨true, hx, fun _ => q, fun z => nomatch z⟩
theorem x_onlyF {ts : Addr → Value → Option Addr → TS} (hx : PySem.W.exmOne K cls c = some false) (q : Wout cls d σ H) : wOnly K c ts Wout D cls d σ H := ⟨false, hx, (fun z => nomatch z), fun _ => q⟩
def tTryA (K : PySem.W.Frag) (c : Value) (i : Nat) (tb : WX → TS) (ts : Addr → Value → Option Addr → TS) (Wout : WX) : TS := fun D σ H => tb (wAs K c i ts Wout D) D σ H
theorem x_tryA {i : Nat} {tb : WX → TS} {ts : Addr → Value → Option Addr → TS} (h : tb (wAs K c i ts Wout D) D σ H) : tTryA K c i tb ts Wout D σ H := h
theorem x_seqTA {i : Nat} {tb : WX → TS} {ts : Addr → Value → Option Addr → TS} {u : TS} (h : tTryA K c i tb ts Wout { D with nx := u D } σ H) : tSeq (tTryA K c i tb ts Wout) u D σ H := h
theorem ps_tryA {x n : Str} {i : Nat} {body suite : List Stmt} {b₀ : Stmt} {np pos pos' : Pos} {tb : WX → TS} {ts : Addr → Value → Option Addr → TS} (hs : X.stack = X.env :: X.outer) (hf : X.env.frame = some X.env.locals) (hN : X.N.Nodup) (hi : X.N[i]? = some n) (hln : X.env.kindOf n = some .local) (hc : Names X x c) (tk : Takes X Wout)
    (hb : ∀ (W : WX) (pn : List (Addr × Obj)) (xe : Value → Shared → Prop), Takes (X.tr pn xe) W → PassesOwn (model X.prog X.w) X.A X.env xe → PSs (X.tr pn xe) body (tb W))
    (hsu : ∀ (a : Addr) (oe : Obj) (cls : Value) (d : Option Addr) (pn : List (Addr × Obj)), Zc cls d oe → (∃ vs, oe.data = .fields vs) → PSs (X.suite a ((a, oe) :: pn)) (b₀ :: suite) (ts a cls d)) :
    PS X (.Try body [.ExceptHandler (some (.Name x np)) (some n) (b₀ :: suite) pos'] [] [] pos) (tTryA X.K c i tb ts Wout) := ps_try_as hs hf hN hi hln hc tk hb hsu
theorem x_asT {i : Nat} {ts : Addr → Value → Option Addr → TS} (hx : PySem.W.exmOne K cls c = some true)
    (q : ∀ a, H a = none → ts a cls d { nx := fun σ' H' => D.nx (σ'.set i none) H', rt := D.rt, bk := fun σ' H' => D.bk (σ'.set i none) H', ct := fun σ' H' => D.ct (σ'.set i none) H' } (σ.set i (some (.ref a))) H) : wAs K c i ts Wout D cls d σ H := ⟨true, hx, fun _ => q, fun z => nomatch z⟩
theorem x_asF {i : Nat} {ts : Addr → Value → Option Addr → TS} (hx : PySem.W.exmOne K cls c = some false) (q : Wout cls d σ H) : wAs K c i ts Wout D cls d σ H := ⟨false, hx, (fun z => nomatch z), fun _ => q⟩
/-! several except clauses -/
def tTryM (K : PySem.W.Frag) (l : List (Value × (Addr → Value → Option Addr → TS))) (tb : WX → TS) (Wout : WX) : TS := fun D σ H => tb (wMany K Wout D l) D σ H
theorem x_tryM {l : List (Value × (Addr → Value → Option Addr → TS))} {tb : WX → TS} (h : tb (wMany K Wout D l) D σ H) : tTryM K l tb Wout D σ H := h
theorem x_seqTM {l : List (Value × (Addr → Value → Option Addr → TS))} {tb : WX → TS} {u : TS} (h : tTryM K l tb Wout { D with nx := u D } σ H) : tSeq (tTryM K l tb Wout) u D σ H := h
theorem ps_tryM {body : List Stmt} {h₀ : ExceptHandler} {hds : List ExceptHandler} {l : List (Value × (Addr → Value → Option Addr → TS))} {pos : Pos} {tb : WX → TS} (hs : X.stack = X.env :: X.outer) (hf : X.env.frame = some X.env.locals) (tk : Takes X Wout)
    (hb : ∀ (W : WX) (pn : List (Addr × Obj)) (xe : Value → Shared → Prop), Takes (X.tr pn xe) W → PassesOwn (model X.prog X.w) X.A X.env xe → PSs (X.tr pn xe) body (tb W))
    (hh : HdsOk X (h₀ :: hds) l) : PS X (.Try body (h₀ :: hds) [] [] pos) (tTryM X.K l tb Wout) := ps_try_many hs hf tk hb hh
theorem x_manyT {l : List (Value × (Addr → Value → Option Addr → TS))} {ts : Addr → Value → Option Addr → TS} (hx : PySem.W.exmOne K cls c = some true) (q : ∀ a, H a = none → ts a cls d D σ H) : wMany K Wout D ((c, ts) :: l) cls d σ H := ⟨true, hx, fun _ => q, fun z => nomatch z⟩
theorem x_manyF {l : List (Value × (Addr → Value → Option Addr → TS))} {ts : Addr → Value → Option Addr → TS} (hx : PySem.W.exmOne K cls c = some false) (q : wMany K Wout D l cls d σ H) : wMany K Wout D ((c, ts) :: l) cls d σ H := ⟨false, hx, (fun z => nomatch z), fun _ => q⟩
theorem x_manyN (q : Wout cls d σ H) : wMany K Wout D [] cls d σ H := q
/-- e.f of a caught exception -/
def xfK (a : Addr) (cls : Value) (d : Option Addr) (C : Addr) (f : Str) (Q : VK) : V → Hp → Prop := fun x H1 => x = .ref a ∧ cls = .ref C ∧ ∃ (dd : Addr) (fs : List (Str × V)) (v : V), d = some dd ∧ H1 dd = some (.xd fs) ∧ fs.lookup f = some v ∧ Q v H1
theorem x_xf {f : Str} {te : TE} (h : te σ H (xfK a cls d C f Q)) : tXf a cls d C f te σ H Q := h
theorem x_xfK {f : Str} {dd : Addr} {fs : List (Str × V)} {v : V} (h : H dd = some (.xd fs)) (hl : fs.lookup f = some v) (q : Q v H) : xfK a (.ref C) (some dd) C f Q (.ref a) H := ⟨rfl, rfl, dd, fs, v, rfl, h, hl, q⟩
/-- isinstance(e, c) of a caught exception without fields -/
def rIsX (K : PySem.W.Frag) (a : Addr) (cls : Value) (d : Option Addr) : List V → Hp → VK → Prop := fun xs H Q => ∃ (E : Addr) (t : String) (b : Bool), cls = .ref E ∧ d = none ∧ ExcC K E ∧ xs = [.ref a, .ty t] ∧ PySem.W.kitOne K (.ref E) (.type t) = some b ∧ Q (.bl b) H
theorem cr_isX {oe : Obj} {pn : List (Addr × Obj)} (hz : Zc cls d oe) (hf : ∃ vs, oe.data = .fields vs) : CallR (X.suite a ((a, oe) :: pn)) (.builtin "isinstance") (rIsX X.K a cls d) := by
  intro pins s σ H xs us Q I r h
  obtain ⟨E, t, b, rfl, rfl, hE, rfl, hk, q⟩ := h
  exact call_isE hE hz hf pins s σ H _ us Q I r ⟨.ty t, .type t, b, rfl, fun u z => z, hk, q⟩
theorem x_isX {E : Addr} {t : String} {b : Bool} (q : Q (.bl b) H) (hE : ExcC K E) (hk : PySem.W.kitOne K (.ref E) (.type t) = some b) : rIsX K a (.ref E) none [.ref a, .ty t] H Q := ⟨E, t, b, rfl, rfl, hE, rfl, hk, q⟩
/-! a class with an own __init__ -/
structure WInit (K : PySem.W.Frag) (W : Addr) : Prop where
  ga : PySem.W.specialIn K (.ref W) "__getattribute__" = some (some (.builtin "type.__getattribute__"))
  rd : PySem.W.readsIn K W (.type "type") = true
  fd : PySem.W.findCls K (.ref W) (.type "type") "__init__" = some (.val (.builtin "ValueError.__init__"))
theorem pe_weinit {pl : Sem Bool} {x : Str} {Wc : Addr} {e : Expr} {es : List Expr} {ta : TA} {p1 p2 pos : Pos} (w : WInit X.K Wc) (hg : Gl X x) (hm : X.mg x = some (.ref Wc)) (ha : PA X (e :: es) ta) (hdb : (x == ("__debug__" : Str)) = false := by decide)
    (hc : eval (.Call (.Attribute (.Name x p1) "__init__" p2) (e :: es) [] pos) X.env = (do
      let ov ← eval (.Name x p1) X.env
      standAt p2.atName
      let (f, first) ← holding [ov] (getMethod ov "__init__" pl)
      callWith pos f first (backTo pos (starEach (e :: es) X.env)) (backToKw pos (keywordEach [] X.env))) := by rfl)
    (he : starEach (e :: es) X.env = (false, eval e X.env) :: starEach es X.env := by rfl) (hpl : (backTo pos (starEach es X.env)).any (·.1) = false := by rfl) :
    PE X (.Call (.Attribute (.Name x p1) "__init__" p2) (e :: es) [] pos) (tVeI X.K ta) := by
  refine ⟨fun pins s σ H Q I h => ?_⟩
  refine PySem.W.methodCall_KW (ld_glob I hg hm ?_ hdb) hc
  refine PySem.W.method_cls I.kIn w.ga (PySem.W.cls_value I.kIn w.rd w.fd (by decide +kernel) ?_)
  show wpAny _ _ (callWith pos (Value.builtin "ValueError.__init__") [] (backTo pos (starEach (e :: es) X.env)) []) _ _ _
  refine PyProof.Rows.callWith_method1 (thn (ha.run pos pins _ σ H _ (I.tok _) h) fun us s1 ⟨vs, H1, I1, r1, a, C, ws, ev, hl, T, ea, q⟩ => ?_) he hpl
  subst ev
  cases r1 with
  | @cons _ u0 _ ur ra rw' =>
    obtain rfl : u0 = Value.ref a := ra
    have hlen : ur.length ≤ sizeLine := by
      rw [← Paired.length rw', sizeLine_eq]
      omega
    exact oinit_ok T I1 ea hlen fun s' J => ⟨.non, H1, J, rfl, q⟩
def veK (K : PySem.W.Frag) (Q : VK) : List V → Hp → Prop := fun vs H1 => ∃ (a C : Addr) (ws : List V), vs = .ref a :: ws ∧ ws.length ≤ 1000 ∧ OexC K C ∧ H1 a = some (exo a C none) ∧ Q .non H1
theorem x_vei {ta : TA} (h : ta σ H (veK K Q)) : tVeI K ta σ H Q := h
theorem x_veK {ws : List V} (o : OexC K C) (h : H a = some (exo a C none)) (q : Q .non H) (hl : ws.length ≤ 1000) : veK K Q (.ref a :: ws) H := ⟨a, C, ws, rfl, hl, o, h, q⟩
/-- self.f = v, the first one -/
theorem x_ost {f : Str} {to te : TE} (h : te σ H fun y H1 => to σ H1 fun x H2 => ∃ a C : Addr, x = .ref a ∧ OexC K C ∧ PySem.W.findIn K (.ref C) f = some none ∧
  ((H2 a = some (exo a C none) ∧ ∀ dx, H2 dx = none → dx ≠ a → D.nx σ (upd (upd H2 dx (exd dx [(f, y)])) a (exo a C (some dx)))) ∨
    ∃ (dx : Addr) (fs : List (Str × V)), H2 a = some (exo a C (some dx)) ∧ H2 dx = some (exd dx fs) ∧ fs.length ≤ 900 ∧ D.nx σ (upd H2 dx (exd dx ((f, y) :: fs))))) : tOst K f to te D σ H := h
/-- the spec of an exception's __init__ with one field f: what is left -/
def spXInit (K : PySem.W.Frag) (C : Addr) (f : Str) (A : V → Prop) : Sp := fun vs H Q _ => ∃ (a : Addr) (v : V), vs = [.ref a, v] ∧ A v ∧ OexC K C ∧ PySem.W.findIn K (.ref C) f = some none ∧ H a = some (exo a C none) ∧
  ∀ dx, H dx = none → dx ≠ a → Q .non (upd (upd H dx (exd dx [(f, v)])) a (exo a C (some dx)))
theorem passE0 : Passes (L2.CX X.prog X.w) X (fun _ _ _ => False) := fun _ _ _ _ _ _ _ h => by
  obtain ⟨_, _, _, _, _, _, _, _, _, _, _, _, z⟩ := h
  exact z.elim
def moK (C : Addr) (sp : Sp) (dvs : List V) (Q : XK) : List V → Hp → Prop := fun vs H1 => vs.length ≤ 1000 ∧ ∀ a, H1 a = none → sp (.ref a :: (vs ++ dvs)) (upd H1 a (exo a C none))
  (fun v H2 => v = .non ∧ ∃ (d : Addr) (fs : List (Str × V)), H2 a = some (exo a C (some d)) ∧ H2 d = some (exd d fs) ∧ H1 d = none ∧ Q (.ref C) (some d) (upd (del H2 a) d (.xd fs))) (fun _ _ _ => False)
theorem x_mkO {sp : Sp} {dvs : List V} {Q : XK} {ta : TA} (h : ta σ H (moK C sp dvs Q)) : tMkO C sp dvs ta σ H Q := h
theorem x_moK {f : Str} {v : V} {A : V → Prop} {Q : XK} (hv : A v) (q : ∀ d H1, H d = none → Same H H1 → H1 d = some (.xd [(f, v)]) → Q (.ref C) (some d) H1) (o : OexC K C) (n : PySem.W.findIn K (.ref C) f = some none) : moK C (spXInit K C f A) [] Q [v] H := by
  refine ⟨Nat.le_of_ble_eq_true rfl, fun a na => ⟨a, v, rfl, hv, o, n, upd_same, fun dx nd ne => ⟨rfl, dx, [(f, v)], upd_same, ?_, ?_, ?_⟩⟩⟩
  · rw [upd_ne ne, upd_same]
  · rw [upd_ne ne] at nd; exact nd
  · rw [upd_ne ne] at nd
    have e : upd (del (upd (upd (upd H a (exo a C none)) dx (exd dx [(f, v)])) a (exo a C (some dx))) a) dx (.xd [(f, v)]) = upd H dx (.xd [(f, v)]) := by
      funext b
      by_cases hb : b = dx
      · rw [hb, upd_same, upd_same]
      · rw [upd_ne hb, upd_ne hb]
        by_cases hba : b = a
        · rw [hba, del_same, na]
        · rw [del_ne hba, upd_ne hba, upd_ne hb, upd_ne hba]
    rw [e]
    exact q dx _ nd (same_upd nd) upd_same
end
/-! several except clauses, some of them with a name -/
section
variable {X : Cx}
/-- what a clause does with an exception at q: the slot of its name, if it has one, holds it -/
def inAs (o : Option Nat) (ts : Addr → Value → Option Addr → TS) (q : Addr) (cls : Value) (d : Option Addr) : TS := match o with
  | none => ts q cls d
  | some i => fun D σ H => ts q cls d { nx := fun σ' H' => D.nx (σ'.set i none) H', rt := D.rt, bk := fun σ' H' => D.bk (σ'.set i none) H', ct := fun σ' H' => D.ct (σ'.set i none) H' } (σ.set i (some (.ref q))) H
def wMix (K : PySem.W.Frag) (Wout : WX) (D : Ends) : List (Value × Option Nat × (Addr → Value → Option Addr → TS)) → WX
  | [] => Wout
  | (c, o, ts) :: r => fun cls d σ H => ∃ b, PySem.W.exmOne K cls c = some b ∧ (b = true → ∀ q, H q = none → inAs o ts q cls d D σ H) ∧ (b = false → wMix K Wout D r cls d σ H)
inductive Cl (X : Cx) : List ExceptHandler → List (Value × Option Nat × (Addr → Value → Option Addr → TS)) → Prop
  | nil : Cl X [] []
  | one {x : Str} {c : Value} {ts : Addr → Value → Option Addr → TS} {b₀ : Stmt} {su : List Stmt} {p1 p2 : Pos} {hs : List ExceptHandler} {l : List (Value × Option Nat × (Addr → Value → Option Addr → TS))} (nm : Names X x c)
      (k : ∀ (q : Addr) (oe : Obj) (cls : Value) (d : Option Addr) (pn : List (Addr × Obj)), Zc cls d oe → (∃ vs, oe.data = .fields vs) → PSs (X.suite q ((q, oe) :: pn)) (b₀ :: su) (ts q cls d)) (r : Cl X hs l) :
      Cl X (.ExceptHandler (some (.Name x p1)) none (b₀ :: su) p2 :: hs) ((c, none, ts) :: l)
  | asn {x n : Str} {i : Nat} {c : Value} {ts : Addr → Value → Option Addr → TS} {b₀ : Stmt} {su : List Stmt} {p1 p2 : Pos} {hs : List ExceptHandler} {l : List (Value × Option Nat × (Addr → Value → Option Addr → TS))} (hi : X.N[i]? = some n) (hl : X.env.kindOf n = some .local) (nm : Names X x c)
      (k : ∀ (q : Addr) (oe : Obj) (cls : Value) (d : Option Addr) (pn : List (Addr × Obj)), Zc cls d oe → (∃ vs, oe.data = .fields vs) → PSs (X.suite q ((q, oe) :: pn)) (b₀ :: su) (ts q cls d)) (r : Cl X hs l) :
      Cl X (.ExceptHandler (some (.Name x p1)) (some n) (b₀ :: su) p2 :: hs) ((c, some i, ts) :: l)
def tMix (K : PySem.W.Frag) (l : List (Value × Option Nat × (Addr → Value → Option Addr → TS))) (tb : WX → TS) (Wout : WX) : TS := fun D σ H => tb (wMix K Wout D l) D σ H
theorem ps_mix {body : List Stmt} {h0 : ExceptHandler} {hs : List ExceptHandler} {l : List (Value × Option Nat × (Addr → Value → Option Addr → TS))} {pos : Pos} {tb : WX → TS} {Wout : WX}
    (es : X.stack = X.env :: X.outer) (ef : X.env.frame = some X.env.locals) (nd : X.N.Nodup) (tk : Takes X Wout)
    (hb : ∀ (W : WX) (pn : List (Addr × Obj)) (xe : Value → Shared → Prop), Takes (X.tr pn xe) W → PassesOwn (model X.prog X.w) X.A X.env xe → PSs (X.tr pn xe) body (tb W))
    (cl : Cl X (h0 :: hs) l) : PS X (.Try body (h0 :: hs) [] [] pos) (tMix X.K l tb Wout) := by
  refine ⟨fun pins s σ H D I h => wpAny_Try_except ?_⟩
  have ok := I.ok
  have frs1 : X.A.frames = some (X.env :: X.outer) := by rw [ok.frames, es]
  have run := (hb (wMix X.K Wout D l) (X.pn ++ pins) (fun e z1 => wpAny (model X.prog X.w) X.A (noteFrame e X.env) (fun _ z2 => wpAny (model X.prog X.w) X.A (setFlight e none)
    (fun _ z3 => wpAny (model X.prog X.w) X.A (handleBy e X.env (h0 :: hs)) (SP X pins D) X.xe z3) X.xe z2) X.xe z1) (fun u t xx => ?_) PassesOwn.looking).run [] s σ H D (I.toTry _) h
  · refine wpAny_mono run (fun f z hz => ?_) (fun _ _ k => k)
    cases f
    · obtain ⟨σ', H', J, y⟩ := hz; exact wpAny_execs_nil ⟨σ', H', J.ofTry ok, y⟩
    · obtain ⟨σ', H', J, y⟩ := hz; exact ⟨σ', H', J.ofTry ok, y⟩
    · obtain ⟨σ', H', J, y⟩ := hz; exact ⟨σ', H', J.ofTry ok, y⟩
    · obtain ⟨v, σ', H', J, r, y⟩ := hz; exact ⟨v, σ', H', J.ofTry ok, r, y⟩
  obtain ⟨q, bs, sI, pins', τ, G, cls, d, rfl, J0, nb, u1, sk0, nq, os, ag, wish⟩ := xx
  have J : Inv X pins τ G sI := J0.ofTry ok
  have sk : Sky bs (X.env :: X.outer) q (Zc cls d) X.env.locals t.heap := by rw [← es]; exact sk0
  show wpAny (model X.prog X.w) X.A (noteFrame (.ref q) X.env) _ _ t
  refine Sky.land Zc.steady frs1 ef sk fun m fm u2 => ?_
  have Jm : Inv X pins τ G { t with heap := m } := J.landed nb fm.1 (u1.trans u2) os ag
  obtain ⟨om, vm, gm, zm, dm⟩ := fm.there
  have far : q ∉ L2.frs (X.env :: X.outer) := fun hm => by
    obtain ⟨_, o', e', hnf⟩ := fm.2.2.1.mem hm
    rw [gm] at e'; cases e'; exact hnf _ dm
  have qL : q ≠ X.env.locals := fun z => far (List.mem_filterMap.mpr ⟨X.env, List.mem_cons_self, by rw [ef, z]⟩)
  have qF : q ∉ X.fs := fun hm => by
    obtain ⟨e, he, y⟩ := List.mem_filterMap.mp hm
    exact far (List.mem_filterMap.mpr ⟨e, List.mem_cons_of_mem _ he, y⟩)
  have Sm := Jm.suite gm dm nq qL qF
  suffices go : ∀ (hs' : List ExceptHandler) (l' : List (Value × Option Nat × (Addr → Value → Option Addr → TS))), Cl X hs' l' → wMix X.K Wout D l' cls d τ G →
      wpAny (model X.prog X.w) X.A (handleBy (.ref q) X.env hs') (SP X pins D) X.xe { t with heap := m } from go _ _ cl wish
  have looks : PySem.W.Looks (model X.prog X.w) m (typeOf (.ref q)) cls := fun A Q E z k y => wpAny_typeOf_ref (k _ _ gm) (by rw [zm.1]; exact y)
  have nameIs : ∀ {x : Str} {c : Value} {p1 : Pos} {Q E : Value → Shared → Prop}, Names X x c → Q c { t with heap := m } →
      wpAny (model X.prog X.w) (X.A.mark (some (.ref q))) (eval (.Name x p1) X.env) Q E { t with heap := m } := fun nm y => by
    obtain ⟨hg, hdbg, hm | ⟨hm, hv, hnn⟩⟩ := nm
    · exact ld_glob (X := X.suite q ((q, om) :: (X.pn ++ pins))) Sm hg hm y hdbg
    · exact ld_blt (X := X.suite q ((q, om) :: (X.pn ++ pins))) Sm hg hm hv y hnn hdbg
  intro hs' l' hk
  induction hk with
  | nil =>
    intro wo
    refine wpAny_handleBy_nil ?_
    have fm' := fm
    obtain ⟨_, _, _, oe, vs, T, oT, _, g0, z0, d0, i0, _⟩ := fm'
    unfold PySem.passOn
    refine wpAny_bind (wpAny_field g0 d0 i0 ?_)
    rw [if_neg (show ¬ ((Value.ref T == Value.none) = true) by simp)]
    have out : wpAny (model X.prog X.w) X.A (setFlight (.ref q) X.env.frame) (fun _ z4 => wpAny (model X.prog X.w) X.A (throw (.ref q) : Sem Flow) (SP X pins D) X.xe z4) X.xe { t with heap := m } := by
      rw [ef]
      exact HandSPX.setFlight_upZ fm fun m4 hh4 u4 => wpAny_throw (tk _ _ ⟨q, bs, sI, pins, τ, G, cls, d, rfl, J, nb, (u1.trans u2).trans u4, .inr (.inr (by rw [es]; exact hh4)), nq, os, ag, wo⟩)
    first | exact wpAny_bind (wpAny_pure (wpAny_bind out)) | exact wpAny_bind out
  | @one x c ts b₀ su p1 p2 hs2 l2 nm k r ih =>
    intro ⟨b, hb1, yes, no⟩
    refine wpAny_handleBy_cons (codeAny_handlers_test ?_) (by intro y; cases y)
    refine nameIs nm ((PySem.W.exm_one (M := model X.prog X.w) Jm.kIn looks hb1).here ?_)
    cases b
    · show wpAny (model X.prog X.w) X.A (handleBy (.ref q) X.env hs2) _ _ _
      exact ih (no rfl)
    refine codeAny_handlers_suite (HandSPX.lands_againZ fm fun m4 f4 u4 => ?_)
    have J4 : Inv X pins τ G { t with heap := m4 } := J.landed nb f4.1 ((u1.trans u2).trans u4) os ag
    obtain ⟨o4, v4, g4, z4, d4⟩ := f4.there
    refine wpAny_mono ((k q o4 cls d (X.pn ++ pins) z4 ⟨_, d4⟩).run [] _ _ G _ (J4.suite g4 d4 nq qL qF) (yes rfl q nq)) (fun f z hz => ?_) (fun _ _ y => y.elim)
    cases f
    · obtain ⟨σ6, H6, S6, y⟩ := hz; exact ⟨_, _, S6.unsuite ok, y⟩
    · obtain ⟨σ6, H6, S6, y⟩ := hz; exact ⟨_, _, S6.unsuite ok, y⟩
    · obtain ⟨σ6, H6, S6, y⟩ := hz; exact ⟨_, _, S6.unsuite ok, y⟩
    · obtain ⟨v6, σ6, H6, S6, r6, y⟩ := hz; exact ⟨_, _, _, S6.unsuite ok, r6, y⟩
  | @asn x n i c ts b₀ su p1 p2 hs2 l2 hi hl nm k r ih =>
    intro ⟨b, hb1, yes, no⟩
    refine wpAny_handleBy_cons (codeAny_handlers_test ?_) (by intro y; cases y)
    refine nameIs nm ((PySem.W.exm_one (M := model X.prog X.w) Jm.kIn looks hb1).here ?_)
    cases b
    · show wpAny (model X.prog X.w) X.A (handleBy (.ref q) X.env hs2) _ _ _
      exact ih (no rfl)
    refine codeAny_handlers_suite_as (HandSPX.lands_againZ fm fun m4 f4 u4 => ?_)
    have J4 : Inv X pins τ G { t with heap := m4 } := J.landed nb f4.1 ((u1.trans u2).trans u4) os ag
    obtain ⟨o4, v4, g4, z4, d4⟩ := f4.there
    refine store_ok (X := X.suite q ((q, o4) :: (X.pn ++ pins))) (v := .ref q) (J4.suite g4 d4 nq qL qF) nd hi (.inl hl) rfl (fun z5 S5 => ?_) (.inr hl)
    refine wpAny_mono ((k q o4 cls d (X.pn ++ pins) z4 ⟨_, d4⟩).run [] z5 _ G _ S5 (yes rfl q nq)) (fun f z hz => ?_) (fun _ _ y => y.elim)
    have gone : ∀ {σ6 : L2.St} {H6 : Hp} {Q : Shared → Prop}, Inv (X.suite q ((q, o4) :: (X.pn ++ pins))) [] σ6 H6 z → (∀ z7, Inv X pins (σ6.set i none) H6 z7 → Q z7) →
        wpAny (model X.prog X.w) X.A (do bindName X.env n .none; unbindBehindTheSuite X.env n p2) (fun _ z7 => Q z7) X.xe z := fun S6 y => gone_ok (S6.unsuite ok) nd hi hl y
    cases f
    · obtain ⟨σ6, H6, S6, y⟩ := hz; exact gone S6 fun z7 J7 => ⟨_, _, J7, y⟩
    · obtain ⟨σ6, H6, S6, y⟩ := hz; exact gone S6 fun z7 J7 => ⟨_, _, J7, y⟩
    · obtain ⟨σ6, H6, S6, y⟩ := hz; exact gone S6 fun z7 J7 => ⟨_, _, J7, y⟩
    · obtain ⟨v6, σ6, H6, S6, r6, y⟩ := hz; exact gone S6 fun z7 J7 => ⟨_, _, _, J7, r6, y⟩
variable {K : PySem.W.Frag} {Wout : WX} {D : Ends} {σ : L2.St} {H : Hp} {cls c : Value} {d : Option Addr}
theorem x_mix {l : List (Value × Option Nat × (Addr → Value → Option Addr → TS))} {tb : WX → TS} (h : tb (wMix K Wout D l) D σ H) : tMix K l tb Wout D σ H := h
theorem x_seqMix {l : List (Value × Option Nat × (Addr → Value → Option Addr → TS))} {tb : WX → TS} {u : TS} (h : tMix K l tb Wout { D with nx := u D } σ H) : tSeq (tMix K l tb Wout) u D σ H := h
theorem x_mixT {o : Option Nat} {l : List (Value × Option Nat × (Addr → Value → Option Addr → TS))} {ts : Addr → Value → Option Addr → TS} (hx : PySem.W.exmOne K cls c = some true) (y : ∀ q, H q = none → inAs o ts q cls d D σ H) : wMix K Wout D ((c, o, ts) :: l) cls d σ H := ⟨true, hx, fun _ => y, fun z => nomatch z⟩
theorem x_mixF {o : Option Nat} {l : List (Value × Option Nat × (Addr → Value → Option Addr → TS))} {ts : Addr → Value → Option Addr → TS} (hx : PySem.W.exmOne K cls c = some false) (y : wMix K Wout D l cls d σ H) : wMix K Wout D ((c, o, ts) :: l) cls d σ H := ⟨false, hx, (fun z => nomatch z), fun _ => y⟩
theorem x_mixN (y : Wout cls d σ H) : wMix K Wout D [] cls d σ H := y
end
/-! list(reversed(x)), x a list -/
section
variable {prog : Program} {w : World} {A : Around} {E : Value → Shared → Prop} {s : Shared} {it l S : Addr} {items : Array Value}
theorem rev_ext {R : Result → Shared → Prop} {c₀ : Nat} (res : Value) (hh : A.handled = none) (hit : s.heap.IsRevIter it l ((items.size : Int) - 1)) (hl : s.heap.IsList l items) (n1 : l ≠ it) (n2 : S ≠ it) (n3 : S ≠ l) (hn : items.size ≤ sizeLine)
    (hS : s.heap.get? S = some { cls := .type "list", data := .seq #[] c₀ })
    (k : ∀ h' tk acc' c', (∀ b o, b ≠ S → b ≠ it → s.heap.get? b = some o → h'.get? b = some o) → h'.get? S = some { cls := .type "list", dict := none, data := .seq acc' c', slots := #[] } → ItemsOf (fun i v => items[items.size - 1 - i]? = some v) acc' items.size → R (.ok (.ret res)) { s with heap := h', toks := tk }) :
    wpAny (model prog w) A.in1 (Builtin.List.listExtendWith (.ref S) (.ref it) res)
      (fun fin t => match fin with | .done f => R (.ok f) t | .again c' => c'.quiet = true ∧ codeAny (model prog w) A c' R t) (fun e t => R (.error e) t) s := by
  have W := (Walks.listRev (prog := prog) (w := w) (A := A.in1) hh it l n1 items).toS
  have out : S ∉ [it, l] := by simp only [List.mem_cons, List.not_mem_nil, or_false, not_or]; exact ⟨n2, n3⟩
  have ty : s.TypeIs (.ref it) "list_reverseiterator" := Heap.IsRevIter.typeIs hit
  have e0 : ((items.size : Nat) : Int) - 1 - ((0 : Nat) : Int) = (items.size : Int) - 1 := by omega
  have apart : Builtin.List.listSameRef (.ref S) (.ref it) = false := by simp [Builtin.List.listSameRef, n2]
  unfold Builtin.List.listExtendWith
  refine wpAny_bind (wpAny_typeOf ty ?_)
  rw [if_neg (by rw [apart]; decide)]
  refine wpAny_bind (wpAny_pyIter_revIter hit (wpAny_bind (wpAny_holding ?_)))
  unfold Builtin.List.listLengthHint
  refine wpAny_bind (wpAny_specialOf ty RT.nolen_lri ?_)
  show wpAny (model prog w) A.in1 (specialOf (Value.ref it) (Str.ofString "__length_hint__") >>= _) _ _ s
  refine wpAny_bind (wpAny_specialOf ty RT.hint_lri ?_)
  generalize hid : ("list_reverseiterator.__length_hint__" : String) = name
  wp_delta
  rw [show splitId name = some ("list_reverseiterator", "__length_hint__") by subst hid; decide +kernel]
  subst hid
  refine wpAny_bind (wpAny_isInstance (b := true) ty (by rw [isSubtype_type]; kernel_rfl) (wpAny_pure ?_))
  rw [if_neg (by decide)]
  refine wpAny_pure ⟨plainId_quiet PySem.F.plain_extend_loop _, codeAny_extend_loopS W hn S out res items.size 0 _ #[] c₀ rfl (Nat.zero_le _) ⟨Nat.zero_le _, by rw [e0]; exact hit, hl⟩ hS (ItemsOf.nil _) fun t acc' c' hm hS' hacc => ?_⟩
  rw [Moved.eq_with hm]
  refine k t.heap t.toks acc' c' (fun b o b1 b2 e => hm.heap b o (fun z => ?_) e) hS' hacc
  rcases List.mem_cons.mp z with z | z
  · exact b1 z
  · exact b2 (List.mem_singleton.mp z)
end
section
variable {prog : Program} {w : World} {A : Around} {E : Value → Shared → Prop} {s : Shared} {it l : Addr} {items : Array Value}
theorem rev_init {S : Addr} {R : Result → Shared → Prop} (hh : A.handled = none) (hit : s.heap.IsRevIter it l ((items.size : Int) - 1)) (hl : s.heap.IsList l items) (n1 : l ≠ it) (n2 : S ≠ it) (n3 : S ≠ l) (hn : items.size ≤ sizeLine)
    (hS : s.heap.get? S = some { cls := .type "list", data := .seq #[] })
    (k : ∀ h' tk acc' c', (∀ b o, b ≠ S → b ≠ it → s.heap.get? b = some o → h'.get? b = some o) → h'.get? S = some { cls := .type "list", dict := none, data := .seq acc' c', slots := #[] } → ItemsOf (fun i v => items[items.size - 1 - i]? = some v) acc' items.size → R (.ok (.ret .none)) { s with heap := h', toks := tk }) :
    wpAny (model prog w) A.in1 (Builtin.«list.__init__» ⟨[.ref S, .ref it], []⟩)
      (fun fin t => match fin with | .done f => R (.ok f) t | .again c' => c'.quiet = true ∧ codeAny (model prog w) A c' R t) (fun e t => R (.error e) t) s := by
  show wpAny (model prog w) A.in1 (do let old ← Builtin.List.listItems (.ref S); Builtin.List.listUpdate (.ref S) (fun _ => #[]); letGo old.toList.reverse; Builtin.List.listExtendWith (.ref S) (.ref it) .none) _ _ s
  refine wpAny_bind ?_; unfold Builtin.List.listItems; refine wpAny_bind (wpAny_seqItems hS rfl (wpAny_pure ?_))
  show wpAny (model prog w) A.in1 (updateSeq S (fun _ => #[]) >>= fun _ => letGo (#[] : Array Value).toList.reverse >>= fun _ => Builtin.List.listExtendWith (.ref S) (.ref it) .none) _ _ s
  refine wpAny_bind (wpAny_updateSeq hS rfl (wpAny_bind (wpAny_letGo ?_)))
  have g2 := Heap.get?_update_self (Obj.mapSeq (fun _ => (#[] : Array Value))) hS rfl
  have rest : ∀ b o, b ≠ S → s.heap.get? b = some o → (s.heap.update S (Obj.mapSeq (fun _ => (#[] : Array Value)))).get? b = some o := fun b o hb e => (Heap.get?_update_other _ _ (Ne.symm hb)).trans e
  have hit2 : (s.heap.update S (Obj.mapSeq (fun _ => (#[] : Array Value)))).IsRevIter it l ((items.size : Int) - 1) := hit.at fun o e => rest _ o n2.symm e
  have hl2 : (s.heap.update S (Obj.mapSeq (fun _ => (#[] : Array Value)))).IsList l items := hl.at fun o e => rest _ o n3.symm e
  exact rev_ext (s := { s with heap := s.heap.update S (Obj.mapSeq (fun _ => (#[] : Array Value))) }) .none hh hit2 hl2 n1 n2 n3 hn g2 fun h' tk acc' c' hk hS' hacc => k h' tk acc' c' (fun b o b1 b2 e => hk b o b1 b2 (rest b o b1 e)) hS' hacc
theorem rev_list {Q : Value → Shared → Prop} (hh : A.handled = none) (hit : s.heap.IsRevIter it l ((items.size : Int) - 1)) (hl : s.heap.IsList l items) (n1 : l ≠ it) (hn : items.size ≤ sizeLine)
    (k : ∀ h' tk acc' c', (∀ b o, b ≠ it → s.heap.get? b = some o → h'.get? b = some o) → h'.get? s.heap.objs.size = some { cls := .type "list", dict := none, data := .seq acc' c', slots := #[] } → ItemsOf (fun i v => items[items.size - 1 - i]? = some v) acc' items.size → Q (.ref s.heap.objs.size) { s with heap := h', toks := tk }) :
    wpAny (model prog w) A (call (.type "list") [.ref it]) Q E s := by
  have n2 : s.heap.objs.size ≠ it := Nat.ne_of_gt (let ⟨_, e, _⟩ := hit; Heap.lt_size e)
  have n3 : s.heap.objs.size ≠ l := Nat.ne_of_gt (let ⟨_, e, _⟩ := hl; Heap.lt_size e)
  refine callType_codes (Q₁ := fun v t => v = .ref s.heap.objs.size ∧ t = { s with heap := s.heap.push { cls := .type "list", data := .seq #[] } }) PySem.F.called_list (PySem.F.typeCall_list_1 _) PySem.F.entry_list_init (code_list_new _ ⟨rfl, rfl⟩) fun v t h => ?_
  obtain ⟨rfl, rfl⟩ := h
  have g : (s.heap.push { cls := .type "list", data := .seq #[] }).get? s.heap.objs.size = some { cls := .type "list", data := .seq #[] } := Heap.get?_push_size _ rfl
  refine ⟨⟨_, g, rfl⟩, PySem.F.args_list_init_2 _ _, rev_init (A := A.in1) (s := { s with heap := s.heap.push { cls := .type "list", data := .seq #[] } }) hh (hit.at fun o e => Heap.get?_push_of_some _ e) (hl.push _) n1 n2 n3 hn g fun h' tk acc' c' hk hS' hacc => ?_⟩
  exact ⟨rfl, k h' tk acc' c' (fun b o hb e => hk b o (Nat.ne_of_lt (Heap.lt_size e)) hb (Heap.get?_push_of_some _ e)) hS' hacc⟩
end
section
variable {X : Cx}
def tListRev (K : PySem.W.Frag) (te : TE) : TE := fun σ H Q => te σ H fun v H1 => ∃ (a : Addr) (xs : List V), v = .ref a ∧ SqL K H1 a xs ∧ ∀ q, H1 q = none → Q (.ref q) (upd H1 q (.lst xs.reverse))
theorem pe_listRev {e : Expr} {te : TE} {p p2 pos pos2 : Pos} (hg : Gl X "list") (hm : X.mg "list" = none) (hg2 : Gl X "reversed") (hm2 : X.mg "reversed" = none) (he : PE X e te) (hc : X.calm = true := by rfl)
    (s1 : starEach [e] X.env = (false, eval e X.env) :: starEach [] X.env := by rfl)
    (s2 : starEach [.Call (.Name "reversed" p2) [e] [] pos2] X.env = (false, eval (.Call (.Name "reversed" p2) [e] [] pos2) X.env) :: starEach [] X.env := by rfl) :
    PE X (.Call (.Name "list" p) [.Call (.Name "reversed" p2) [e] [] pos2] [] pos) (tListRev X.K te) := by
  constructor; intro pins s σ H Q I h
  refine Call_ (ld_blt I hg hm boot_list (PyProof.Rows.callWith_type1 (args_cons (Call_ (ld_blt I hg2 hm2 PyProof.Rows.boot_reversed (PyProof.Rows.callWith_type1 (args_cons (thn (he.run pins s σ H _ I h) fun u t ⟨v, H1, I1, r1, q1⟩ => args_nil ?_) s1) s1 rfl))) s2) s2 rfl))
  obtain ⟨a, xs, ev, hq, q⟩ := q1; subst ev
  obtain rfl : u = Value.ref a := r1
  obtain ⟨its, rv, pl, hz⟩ := I1.list hq
  refine call_reversed_list pl.isList ?_; refine args_nil ?_
  obtain ⟨ol, hol, _⟩ := id pl.isList
  have n1 : a ≠ t.heap.objs.size := Nat.ne_of_lt (Heap.lt_size hol)
  have hn : its.toArray.size ≤ sizeLine := by rw [List.size_toArray, ← rv.length]; exact hz
  refine rev_list (s := { t with heap := t.heap.push (revObj a ((its.toArray.size : Int) - 1)) }) (I1.ok.hd hc) ⟨_, Heap.get?_push_size _ rfl, rfl, rfl⟩ (pl.isList.push _) n1 hn fun h' tk acc c' hk hS hi => ?_
  have sz : (t.heap.push (revObj a ((its.toArray.size : Int) - 1))).objs.size = t.heap.objs.size + 1 := by simp [Heap.push]
  have keep : ∀ b o, t.heap.get? b = some o → h'.get? b = some o := fun b o e => hk b o (Nat.ne_of_lt (Heap.lt_size e)) (Heap.get?_push_of_some _ e)
  refine ⟨.ref (t.heap.push (revObj a ((its.toArray.size : Int) - 1))).objs.size, upd H1 _ (.lst xs.reverse), I1.laid (t' := tk) keep (a := (t.heap.push (revObj a ((its.toArray.size : Int) - 1))).objs.size) (by rw [sz]; exact Nat.le_succ _) (show ObjOk X.prog X.w _ _ _ (.lst xs.reverse) from ⟨by rw [List.length_reverse]; exact hz, acc.toList, c', RT.vals_rev rv hi, ?_⟩), rfl, q _ (I1.hok.fresh (by rw [sz]; exact Nat.le_succ _))⟩
  rw [hS]
def lrK (K : PySem.W.Frag) (Q : VK) : V → Hp → Prop := fun v H1 => ∃ (a : Addr) (xs : List V), v = .ref a ∧ SqL K H1 a xs ∧ ∀ q, H1 q = none → Q (.ref q) (upd H1 q (.lst xs.reverse))
theorem x_listRev {K : PySem.W.Frag} {te : TE} {σ : L2.St} {H : Hp} {Q : VK} (h : te σ H (lrK K Q)) : tListRev K te σ H Q := h
theorem x_lrK {K : PySem.W.Frag} {H : Hp} {a : Addr} {xs : List V} {Q : VK} (h : SqL K H a xs) (q : New H Q (.lst xs.reverse)) : lrK K Q (.ref a) H := ⟨a, xs, rfl, h, q.mk⟩
end
/-! sorted pairs of numbers -/
theorem perm_sorted_eq {α : Type} {r : α → α → Prop} (anti : ∀ a b, r a b → r b a → a = b) : ∀ {l m : List α}, l.Perm m → l.Pairwise r → m.Pairwise r → l = m
  | [], m, h, _, _ => (List.nil_perm.mp h).symm
  | a :: l, [], h, _, _ => absurd h.symm (by intro z; exact absurd (List.nil_perm.mp z) (by simp))
  | a :: l, b :: m, h, h1, h2 => by
    have h1' := List.pairwise_cons.mp h1
    have h2' := List.pairwise_cons.mp h2
    have e : a = b := by
      rcases List.mem_cons.mp (h.mem_iff.mp List.mem_cons_self) with e | e
      · exact e
      rcases List.mem_cons.mp (h.symm.mem_iff.mp List.mem_cons_self) with e2 | e2
      · exact e2.symm
      · exact anti a b (h1'.1 b e2) (h2'.1 a e)
    subst e
    rw [perm_sorted_eq anti (List.Perm.cons_inv h) h1'.2 h2'.2]
def leP (a b : Int × Int) : Bool := !SrtO.lexB b a
def sortP (l : List (Int × Int)) : List (Int × Int) := l.mergeSort leP
theorem leP_iff {a b : Int × Int} : leP a b = true ↔ a.1 < b.1 ∨ (a.1 = b.1 ∧ a.2 ≤ b.2) := by
  unfold leP
  rw [Bool.not_eq_true', SrtO.lexB_no]
  omega
theorem sortP_pw (l : List (Int × Int)) : (sortP l).Pairwise fun a b => leP a b = true :=
  List.pairwise_mergeSort (fun a b c h1 h2 => by rw [leP_iff] at h1 h2 ⊢; omega) (fun a b => by
    rw [Bool.or_eq_true, leP_iff, leP_iff]; omega) l
theorem sortP_eq {ys l : List (Int × Int)} (hp : ys.Perm l) (hs : ys.Pairwise fun a b => leP a b = true) : ys = sortP l :=
  perm_sorted_eq (fun a b h1 h2 => by
    rw [leP_iff] at h1 h2
    exact Prod.ext (by omega) (by omega)) (hp.trans (List.mergeSort_perm l leP).symm) hs (sortP_pw l)
theorem sortP_perm (l : List (Int × Int)) : (sortP l).Perm l := List.mergeSort_perm l leP
/-- a list of tuples of two numbers each -/
def PairL (H : Hp) (xs : List V) (l : List (Int × Int)) : Prop := xs.length = l.length ∧ ∀ (i : Nat) x e, xs[i]? = some x → l[i]? = some e → ∃ t, x = .ref t ∧ H t = some (.tup [.int e.1, .int e.2])
theorem PairL.mono {H H' : Hp} {xs : List V} {l : List (Int × Int)} (s : TupS H H') (h : PairL H xs l) : PairL H' xs l := ⟨h.1, fun i x e h1 h2 => by
  obtain ⟨t, q, h⟩ := h.2 i x e h1 h2
  exact ⟨t, q, s _ _ h⟩⟩
theorem PairL.nil {H : Hp} : PairL H [] [] := ⟨rfl, fun i x e h _ => by simp at h⟩
theorem PairL.snoc {H : Hp} {xs : List V} {l : List (Int × Int)} {v : V} {e : Int × Int} (h : PairL H xs l) (hv : ∃ t, v = .ref t ∧ H t = some (.tup [.int e.1, .int e.2])) : PairL H (xs ++ [v]) (l ++ [e]) := by
  refine ⟨by simp [h.1], fun i x y h1 h2 => ?_⟩
  by_cases hi : i < xs.length
  · rw [List.getElem?_append_left hi] at h1
    rw [List.getElem?_append_left (h.1 ▸ hi)] at h2
    exact h.2 i x y h1 h2
  · have e1 : i = xs.length := by
      have := (List.getElem?_eq_some_iff.mp h1).1
      simp at this
      omega
    subst e1
    rw [List.getElem?_append_right (Nat.le_refl _)] at h1
    rw [h.1, List.getElem?_append_right (Nat.le_refl _)] at h2
    simp at h1 h2
    subst h1 h2
    exact hv
def pairV (H : Hp) : V → Int × Int
  | .ref t => match H t with
    | some (.tup [.int i, .int j]) => (i, j)
    | _ => (0, 0)
  | _ => (0, 0)
theorem pairV_ref {H : Hp} {t : Addr} {i j : Int} (h : H t = some (.tup [.int i, .int j])) : pairV H (.ref t) = (i, j) := by
  unfold pairV
  simp only [h]
theorem PairL.map {H : Hp} {xs : List V} {l : List (Int × Int)} (h : PairL H xs l) : xs.map (pairV H) = l := by
  refine List.ext_getElem? fun i => ?_
  rw [List.getElem?_map]
  cases e1 : xs[i]? with
  | none =>
    have := h.1
    rw [List.getElem?_eq_none_iff] at e1
    rw [List.getElem?_eq_none (by omega)]
    rfl
  | some x =>
    have hl := (List.getElem?_eq_some_iff.mp e1).1
    obtain ⟨e, e2⟩ : ∃ e, l[i]? = some e := ⟨_, List.getElem?_eq_getElem (by have := h.1; omega)⟩
    obtain ⟨t, rfl, ht⟩ := h.2 i x e e1 e2
    rw [e2, Option.map_some, pairV_ref ht]
theorem PairL.mem {H : Hp} {xs : List V} {l : List (Int × Int)} (h : PairL H xs l) {x : V} (hx : x ∈ xs) : ∃ t, x = .ref t ∧ H t = some (.tup [.int (pairV H x).1, .int (pairV H x).2]) := by
  obtain ⟨i, e1⟩ := List.mem_iff_getElem?.mp hx
  have hl := (List.getElem?_eq_some_iff.mp e1).1
  obtain ⟨e, e2⟩ : ∃ e, l[i]? = some e := ⟨_, List.getElem?_eq_getElem (by have := h.1; omega)⟩
  obtain ⟨t, rfl, ht⟩ := h.2 i x e e1 e2
  exact ⟨t, rfl, by rw [pairV_ref ht]; exact ht⟩
def uSorted (K : PySem.W.Frag) : List V → Hp → VK → Prop := fun xs H Q => rSorted K xs H Q ∨ rSortedPO K xs H Q
theorem cr_usorted {X : Cx} : CallR X (.builtin "sorted") (uSorted X.K) := cr_sorted.or cr_sortedPO
theorem x_sortP {K : PySem.W.Frag} {H : Hp} {a : Addr} {xs : List V} {l : List (Int × Int)} {Q : VK} (h : SqL K H a xs) (hx : PairL H xs l) (q : ∀ p ys H', H p = none → Same H H' → H' p = some (.lst ys) → PairL H' ys (sortP l) → Q (.ref p) H') : uSorted K [.ref a] H Q := by
  refine .inr ⟨a, xs, pairV H, rfl, h, fun x m => hx.mem m, fun ys p hs hb hp => ?_⟩
  have hm : ys.map (pairV H) = sortP l := sortP_eq (by rw [← hx.map]; exact hb.perm.map _) (List.pairwise_map.mpr (hs.imp fun {a b} z => by
    unfold leP
    rw [show SrtO.lexB (pairV H b) (pairV H a) = false from z]
    rfl))
  refine q p ys _ hp (same_upd hp) upd_same ⟨by rw [← hm, List.length_map], fun i x e h1 h2 => ?_⟩
  rw [← hm, List.getElem?_map, h1] at h2
  simp at h2
  subst h2
  obtain ⟨t, e1, ht⟩ := hx.mem (hb.perm.mem_iff.mp (List.mem_of_getElem? h1))
  exact ⟨t, e1, same_upd hp _ _ ht⟩
/-! ### built-in calls -/
section
variable {X : Cx}
def uMax (K : PySem.W.Frag) : List V → Hp → VK → Prop := fun xs H Q => (∃ i j, xs = [.int i, .int j] ∧ Q (.int (if j > i then j else i)) H) ∨ rMax K xs H Q
theorem cr_umax (hc : X.calm = true := by rfl) : CallR X (.builtin "max") (uMax X.K) := (call_max2 hc).or (cr_max hc)
def uMin (K : PySem.W.Frag) : List V → Hp → VK → Prop := fun xs H Q => (∃ i j, xs = [.int i, .int j] ∧ Q (.int (if j < i then j else i)) H) ∨ rMin K xs H Q
theorem cr_umin (hc : X.calm = true := by rfl) : CallR X (.builtin "min") (uMin X.K) := (call_min2 hc).or (cr_min hc)
theorem cr_usum (hc : X.calm = true := by rfl) : CallR X (.builtin "sum") (rSum X.K) := cr_sum hc
theorem cr_uall (hc : X.calm = true := by rfl) : CallR X (.builtin "all") (rAll X.K) := cr_all hc
theorem cr_uany (hc : X.calm = true := by rfl) : CallR X (.builtin "any") (rAny X.K) := cr_any hc
def uList (K : PySem.W.Frag) : List V → Hp → VK → Prop := fun xs H Q => (∃ p ys, xs = [.ref p] ∧ (SqL K H p ys ∨ SqT K H p ys) ∧ ∀ l, H l = none → Q (.ref l) (upd H l (.lst ys))) ∨ rListD xs H Q
theorem ct_list (hc : X.calm = true := by rfl) : CallR X (.type "list") (uList X.K) := call_list_of.or (call_list_dK hc)
def uTup (K : PySem.W.Frag) : List V → Hp → VK → Prop := fun xs H Q => ∃ x, xs = [x] ∧ kTup K x H Q
theorem ct_tuple : CallR X (.type "tuple") (uTup X.K) := by
  intro pins s σ H xs us Q I r h
  obtain ⟨x, rfl, h⟩ := h
  obtain ⟨u, rfl, ru⟩ := vals1 r
  exact rl_tuple pins s σ H x u Q I ru h
def uInt : List V → Hp → VK → Prop := fun xs H Q => (∃ i, xs = [.int i] ∧ Q (.int i) H) ∨ ∃ k, xs = [.bl k] ∧ Q (.int (if k then 1 else 0)) H
theorem ct_int : CallR X (.type "int") uInt := call_int1
theorem bt_max : bootBuiltins "max" = some (.builtin "max") := by decide +kernel
theorem bt_min : bootBuiltins "min" = some (.builtin "min") := by decide +kernel
theorem bt_sum : bootBuiltins "sum" = some (.builtin "sum") := by decide +kernel
theorem bt_all : bootBuiltins "all" = some (.builtin "all") := by decide +kernel
theorem bt_any : bootBuiltins "any" = some (.builtin "any") := by decide +kernel
theorem bt_sorted : bootBuiltins "sorted" = some (.builtin "sorted") := by decide +kernel
def uLen (K : PySem.W.Frag) : List V → Hp → VK → Prop := fun xs H Q => (∃ p ys, xs = [.ref p] ∧ (SqL K H p ys ∨ SqT K H p ys) ∧ Q (.int ys.length) H) ∨ ((∃ z, xs = [.str z] ∧ z.length ≤ sizeLine ∧ Q (.int z.length) H) ∨ (∃ a kvs, xs = [V.ref a] ∧ H a = some (.dK kvs) ∧ Q (.int kvs.length) H))
theorem cr_ulen : CallR X (.builtin "len") (uLen X.K) := call_len_seq.or (call_len_str.or call_lenD)
def uIsi (K : PySem.W.Frag) : List V → Hp → VK → Prop := rIsi K
theorem cr_uisinstance : CallR X (.builtin "isinstance") (uIsi X.K) := call_isi
def uStr : List V → Hp → VK → Prop := fun xs H Q => ∃ i, xs = [.int i] ∧ i.natAbs.log2 < 1920 ∧ Q (.str (toString i)) H
theorem ct_str : CallR X (.type "str") uStr := call_str_int
theorem bt_isinstance : bootBuiltins "isinstance" = some (.builtin "isinstance") := by decide +kernel
theorem bt_int : bootBuiltins "int" = some (.type "int") := by decide +kernel
theorem bt_bool : bootBuiltins "bool" = some (.type "bool") := by decide +kernel
theorem bt_str : bootBuiltins "str" = some (.type "str") := by decide +kernel
theorem bt_ValueError : bootBuiltins "ValueError" = some (.type "ValueError") := by decide +kernel
theorem bt_list : bootBuiltins "list" = some (.type "list") := by decide +kernel
theorem bt_tuple : bootBuiltins "tuple" = some (.type "tuple") := by decide +kernel
theorem bt_dict : bootBuiltins "dict" = some (.type "dict") := by decide +kernel
theorem bt_len : bootBuiltins "len" = some (.builtin "len") := by decide +kernel
end
section
variable {σ : L2.St} {H : Hp} {K : PySem.W.Frag} {Q : VK} {p : Addr} {xs : List V} {n : Int} {v : V}
theorem x_lenL (h : SqL K H p xs) (q : Q (.int xs.length) H) : uLen K [.ref p] H Q := .inl ⟨p, xs, rfl, .inl h, q⟩
theorem x_lenM {α : Type} {l : List α} {f : α → V} (h : SqL K H p (l.map f)) (q : Q (.int l.length) H) : uLen K [.ref p] H Q := .inl ⟨p, _, rfl, .inl h, by rw [List.length_map]; exact q⟩
theorem x_lenT (h : SqT K H p xs) (q : Q (.int xs.length) H) : uLen K [.ref p] H Q := .inl ⟨p, xs, rfl, .inr h, q⟩
/-- the built-in class of a value -/
def tyN : V → Option String
  | .non => some "NoneType" | .bl _ => some "bool" | .int _ => some "int" | .str _ => some "str" | .flt _ => some "float" | _ => none
theorem x_isiV {c : String} {t : String} {b : Bool} (ht : tyN v = some t) (hk : kitB t c = some b) (q : Q (.bl b) H) : uIsi K [v, .ty c] H Q := by
  have ty : TyX K H v (.type t) := by
    cases v <;> simp only [tyN, Option.some.injEq, reduceCtorEq] at ht <;> subst ht
    · exact .base .non
    · exact .base (.bl _)
    · exact .base (.int _)
    · exact .base (.str _)
    · exact .base (.flt _)
  exact ⟨v, .ty c, .type t, .type c, b, rfl, .ty c, ty, kit_ty hk, q⟩
theorem x_isiR {c t : String} {b : Bool} (ty : TyX K H (.ref p) (.type t)) (hk : kitB t c = some b) (q : Q (.bl b) H) : uIsi K [.ref p, .ty c] H Q :=
  ⟨.ref p, .ty c, .type t, .type c, b, rfl, .ty c, ty, kit_ty hk, q⟩
theorem x_isiNon_int (q : Q (.bl false) H) : uIsi K [V.non, .ty "int"] H Q := x_isiV rfl (by decide +kernel) q
theorem x_isiNon_bool (q : Q (.bl false) H) : uIsi K [V.non, .ty "bool"] H Q := x_isiV rfl (by decide +kernel) q
theorem x_isiNon_str (q : Q (.bl false) H) : uIsi K [V.non, .ty "str"] H Q := x_isiV rfl (by decide +kernel) q
theorem x_isiNon_list (q : Q (.bl false) H) : uIsi K [V.non, .ty "list"] H Q := x_isiV rfl (by decide +kernel) q
theorem x_isiNon_tuple (q : Q (.bl false) H) : uIsi K [V.non, .ty "tuple"] H Q := x_isiV rfl (by decide +kernel) q
theorem x_isiNon_dict (q : Q (.bl false) H) : uIsi K [V.non, .ty "dict"] H Q := x_isiV rfl (by decide +kernel) q
theorem x_isiBl_int {b : Bool} (q : Q (.bl true) H) : uIsi K [(V.bl b), .ty "int"] H Q := x_isiV rfl (by decide +kernel) q
theorem x_isiBl_bool {b : Bool} (q : Q (.bl true) H) : uIsi K [(V.bl b), .ty "bool"] H Q := x_isiV rfl (by decide +kernel) q
theorem x_isiBl_str {b : Bool} (q : Q (.bl false) H) : uIsi K [(V.bl b), .ty "str"] H Q := x_isiV rfl (by decide +kernel) q
theorem x_isiBl_list {b : Bool} (q : Q (.bl false) H) : uIsi K [(V.bl b), .ty "list"] H Q := x_isiV rfl (by decide +kernel) q
theorem x_isiBl_tuple {b : Bool} (q : Q (.bl false) H) : uIsi K [(V.bl b), .ty "tuple"] H Q := x_isiV rfl (by decide +kernel) q
theorem x_isiBl_dict {b : Bool} (q : Q (.bl false) H) : uIsi K [(V.bl b), .ty "dict"] H Q := x_isiV rfl (by decide +kernel) q
theorem x_isiInt_int (q : Q (.bl true) H) : uIsi K [(V.int n), .ty "int"] H Q := x_isiV rfl (by decide +kernel) q
theorem x_isiInt_bool (q : Q (.bl false) H) : uIsi K [(V.int n), .ty "bool"] H Q := x_isiV rfl (by decide +kernel) q
theorem x_isiInt_str (q : Q (.bl false) H) : uIsi K [(V.int n), .ty "str"] H Q := x_isiV rfl (by decide +kernel) q
theorem x_isiInt_list (q : Q (.bl false) H) : uIsi K [(V.int n), .ty "list"] H Q := x_isiV rfl (by decide +kernel) q
theorem x_isiInt_tuple (q : Q (.bl false) H) : uIsi K [(V.int n), .ty "tuple"] H Q := x_isiV rfl (by decide +kernel) q
theorem x_isiInt_dict (q : Q (.bl false) H) : uIsi K [(V.int n), .ty "dict"] H Q := x_isiV rfl (by decide +kernel) q
theorem x_isiStr_int {z : Str} (q : Q (.bl false) H) : uIsi K [(V.str z), .ty "int"] H Q := x_isiV rfl (by decide +kernel) q
theorem x_isiStr_bool {z : Str} (q : Q (.bl false) H) : uIsi K [(V.str z), .ty "bool"] H Q := x_isiV rfl (by decide +kernel) q
theorem x_isiStr_str {z : Str} (q : Q (.bl true) H) : uIsi K [(V.str z), .ty "str"] H Q := x_isiV rfl (by decide +kernel) q
theorem x_isiStr_list {z : Str} (q : Q (.bl false) H) : uIsi K [(V.str z), .ty "list"] H Q := x_isiV rfl (by decide +kernel) q
theorem x_isiStr_tuple {z : Str} (q : Q (.bl false) H) : uIsi K [(V.str z), .ty "tuple"] H Q := x_isiV rfl (by decide +kernel) q
theorem x_isiStr_dict {z : Str} (q : Q (.bl false) H) : uIsi K [(V.str z), .ty "dict"] H Q := x_isiV rfl (by decide +kernel) q
theorem x_isiLst_int (h : H p = some (.lst xs)) (q : Q (.bl false) H) : uIsi K [.ref p, .ty "int"] H Q := x_isiR (.base (.lst h)) (by decide +kernel) q
theorem x_isiLst_bool (h : H p = some (.lst xs)) (q : Q (.bl false) H) : uIsi K [.ref p, .ty "bool"] H Q := x_isiR (.base (.lst h)) (by decide +kernel) q
theorem x_isiLst_str (h : H p = some (.lst xs)) (q : Q (.bl false) H) : uIsi K [.ref p, .ty "str"] H Q := x_isiR (.base (.lst h)) (by decide +kernel) q
theorem x_isiLst_list (h : H p = some (.lst xs)) (q : Q (.bl true) H) : uIsi K [.ref p, .ty "list"] H Q := x_isiR (.base (.lst h)) (by decide +kernel) q
theorem x_isiLst_tuple (h : H p = some (.lst xs)) (q : Q (.bl false) H) : uIsi K [.ref p, .ty "tuple"] H Q := x_isiR (.base (.lst h)) (by decide +kernel) q
theorem x_isiLst_dict (h : H p = some (.lst xs)) (q : Q (.bl false) H) : uIsi K [.ref p, .ty "dict"] H Q := x_isiR (.base (.lst h)) (by decide +kernel) q
theorem x_isiTup_int (h : H p = some (.tup xs)) (q : Q (.bl false) H) : uIsi K [.ref p, .ty "int"] H Q := x_isiR (.base (.tup h)) (by decide +kernel) q
theorem x_isiTup_bool (h : H p = some (.tup xs)) (q : Q (.bl false) H) : uIsi K [.ref p, .ty "bool"] H Q := x_isiR (.base (.tup h)) (by decide +kernel) q
theorem x_isiTup_str (h : H p = some (.tup xs)) (q : Q (.bl false) H) : uIsi K [.ref p, .ty "str"] H Q := x_isiR (.base (.tup h)) (by decide +kernel) q
theorem x_isiTup_list (h : H p = some (.tup xs)) (q : Q (.bl false) H) : uIsi K [.ref p, .ty "list"] H Q := x_isiR (.base (.tup h)) (by decide +kernel) q
theorem x_isiTup_tuple (h : H p = some (.tup xs)) (q : Q (.bl true) H) : uIsi K [.ref p, .ty "tuple"] H Q := x_isiR (.base (.tup h)) (by decide +kernel) q
theorem x_isiTup_dict (h : H p = some (.tup xs)) (q : Q (.bl false) H) : uIsi K [.ref p, .ty "dict"] H Q := x_isiR (.base (.tup h)) (by decide +kernel) q
theorem x_isiDk_int {kvs : List (Key × V)} (h : H p = some (.dK kvs)) (q : Q (.bl false) H) : uIsi K [.ref p, .ty "int"] H Q := x_isiR (.base (.dK h)) (by decide +kernel) q
theorem x_isiDk_bool {kvs : List (Key × V)} (h : H p = some (.dK kvs)) (q : Q (.bl false) H) : uIsi K [.ref p, .ty "bool"] H Q := x_isiR (.base (.dK h)) (by decide +kernel) q
theorem x_isiDk_str {kvs : List (Key × V)} (h : H p = some (.dK kvs)) (q : Q (.bl false) H) : uIsi K [.ref p, .ty "str"] H Q := x_isiR (.base (.dK h)) (by decide +kernel) q
theorem x_isiDk_list {kvs : List (Key × V)} (h : H p = some (.dK kvs)) (q : Q (.bl false) H) : uIsi K [.ref p, .ty "list"] H Q := x_isiR (.base (.dK h)) (by decide +kernel) q
theorem x_isiDk_tuple {kvs : List (Key × V)} (h : H p = some (.dK kvs)) (q : Q (.bl false) H) : uIsi K [.ref p, .ty "tuple"] H Q := x_isiR (.base (.dK h)) (by decide +kernel) q
theorem x_isiDk_dict {kvs : List (Key × V)} (h : H p = some (.dK kvs)) (q : Q (.bl true) H) : uIsi K [.ref p, .ty "dict"] H Q := x_isiR (.base (.dK h)) (by decide +kernel) q
theorem x_intB {b : Bool} (q : Q (.int (if b then 1 else 0)) H) : uInt [.bl b] H Q := .inr ⟨b, rfl, q⟩
theorem x_intI {m : Int} (q : Q (.int m) H) : uInt [.int m] H Q := .inl ⟨m, rfl, q⟩
theorem x_max2 {m n : Int} (q : Q (.int (if n > m then n else m)) H) : uMax K [.int m, .int n] H Q := .inl ⟨m, n, rfl, q⟩
theorem x_min2 {m n : Int} (q : Q (.int (if n < m then n else m)) H) : uMin K [.int m, .int n] H Q := .inl ⟨m, n, rfl, q⟩
theorem x_list (h : SqL K H p xs) (q : New H Q (.lst xs)) : uList K [.ref p] H Q := .inl ⟨p, xs, rfl, .inl h, q.mk⟩
theorem x_tupL (h : SqL K H p xs) (q : New H Q (.tup xs)) : uTup K [.ref p] H Q := ⟨_, rfl, .inl ⟨p, xs, rfl, h, q.mk⟩⟩
theorem x_listD {kvs : List (L2.Key × V)} (h : H p = some (.dK kvs)) (q : New H Q (.lst (kvs.map fun kv => kV kv.1))) : uList K [.ref p] H Q := .inr ⟨p, kvs, rfl, h, q.mk⟩
theorem x_lenD {kvs : List (L2.Key × V)} (h : H p = some (.dK kvs)) (q : Q (.int kvs.length) H) : uLen K [.ref p] H Q := .inr (.inr ⟨p, kvs, rfl, h, q⟩)
theorem x_str (q : Q (.str (toString n)) H) (h : n.natAbs.log2 < 1920) : uStr [.int n] H Q := ⟨n, rfl, h, q⟩
end
/-! ### the same rules where K is told (inside a comprehension) -/
section
variable {X : Cx} {K : PySem.W.Frag} {a b e : Expr} {rest : List Expr} {ta tb : TE} {pos : Pos} {f : Str}
theorem K_ix (hK : X.K = K := by rfl) : IxR X (rIx K) := hK ▸ ix_seq
theorem K_sl (hK : X.K = K := by rfl) : SlR X (rSlL K) := hK ▸ sl_u
theorem K_add (hK : X.K = K := by rfl) : OpR X (binaryOp .Add) (uAdd K) := hK ▸ op_uAdd
theorem K_eq (hu : X.A.units + 64 < cLine) (hK : X.K = K := by rfl) : OpR X (compareOp .Eq) (uEq K) := hK ▸ op_uEq hu
theorem K_ne (hu : X.A.units + 64 < cLine) (hK : X.K = K := by rfl) : OpR X (compareOp .NotEq) (uNe K) := hK ▸ op_uNe hu
theorem K_in (hK : X.K = K := by rfl) : OpR X (compareOp .In) (uIn K) := hK ▸ op_uIn
theorem K_notIn (hK : X.K = K := by rfl) : OpR X (compareOp .NotIn) (uNotIn K) := hK ▸ op_uNotIn
theorem K_fld (he : PE X e ta) (hb : attributeBase e f X.env (eval e X.env) = eval e X.env) (hK : X.K = K := by rfl) : PE X (.Attribute e f pos) (tFld K ta f) := hK ▸ pe_fld he hb
theorem K_orT (ha : PE X a ta) (hb : PE X (.BoolOp .Or (b :: rest) pos) tb) (hK : X.K = K := by rfl) : PE X (.BoolOp .Or (a :: b :: rest) pos) (tOrT K ta tb) := hK ▸ pe_orT ha hb
theorem K_andT (ha : PE X a ta) (hb : PE X (.BoolOp .And (b :: rest) pos) tb) (hK : X.K = K := by rfl) : PE X (.BoolOp .And (a :: b :: rest) pos) (tAndT K ta tb) := hK ▸ pe_andT ha hb
theorem K_notT (ha : PE X a ta) (hK : X.K = K := by rfl) : PE X (.UnaryOp .Not a pos) (tNotT K ta) := hK ▸ pe_notT ha
theorem K_ulen (hK : X.K = K := by rfl) : CallR X (.builtin "len") (uLen K) := hK ▸ cr_ulen
theorem K_umax (hc : X.calm = true := by rfl) (hK : X.K = K := by rfl) : CallR X (.builtin "max") (uMax K) := hK ▸ cr_umax hc
theorem K_umin (hc : X.calm = true := by rfl) (hK : X.K = K := by rfl) : CallR X (.builtin "min") (uMin K) := hK ▸ cr_umin hc
theorem K_usum (hc : X.calm = true := by rfl) (hK : X.K = K := by rfl) : CallR X (.builtin "sum") (rSum K) := hK ▸ cr_usum hc
theorem K_uisinstance (hK : X.K = K := by rfl) : CallR X (.builtin "isinstance") (uIsi K) := hK ▸ cr_uisinstance
theorem K_gtup {K : PySem.W.Frag} {es : List Expr} {k : Nat} {ts : TGs} {n : Nat} {pos : Pos} (hc : X.calm = true) (h : PGs X es ts) (hn : (assignEach es X.env).length = n := by rfl) (hst : (assignEach es X.env).findIdx? (·.1) = none := by rfl) (hK : X.K = K := by rfl) : PG X (.Tuple es k pos) (gTup K n ts) := hK ▸ pg_tup hc h hn hst
theorem K_usorted (hK : X.K = K := by rfl) : CallR X (.builtin "sorted") (uSorted K) := hK ▸ cr_usorted
theorem K_list (hK : X.K = K := by rfl) (hc : X.calm = true := by rfl) : CallR X (.type "list") (uList K) := hK ▸ ct_list hc
theorem K_methD {P : Program} {w : World} {mg : Str → Option Value} {base : Heap} {k : Nat} {E : L2.St → XK} {m : Str} {pos apos : Pos} {e o : Expr} {es : List Expr} {t : TA} {pl : Sem Bool} (he : PE X o ta) (hr : Room k X.A) (hx : ∀ σ, PassesAt (L2.CX P w) X σ (E σ)) (ha : PA X (e :: es) t)
    (hst : starEach (e :: es) X.env = (false, eval e X.env) :: starEach es X.env := by rfl) (hpl : (backTo pos (starEach es X.env)).any (·.1) = false := by rfl)
    (ht : eval (.Call (.Attribute o m apos) (e :: es) [] pos) X.env = (do
      let ov ← eval o X.env
      standAt apos.atName
      let (f, first) ← holding [ov] (getMethod ov m pl)
      callWith pos f first (backTo pos (starEach (e :: es) X.env)) (backToKw pos (keywordEach [] X.env))) := by rfl)
    (h1 : X.prog = P := by rfl) (h2 : X.w = w := by rfl) (h3 : X.K = K := by rfl) (h4 : X.mg = mg := by rfl) (h5 : X.base = base := by rfl) :
    PE X (.Call (.Attribute o m apos) (e :: es) [] pos) (tMethD P w K mg base (L2.CX P w) k m E ta t) := by
  subst h1 h2 h3 h4 h5
  exact pe_methD he hr hx ha hst hpl ht
theorem K_methD0 {P : Program} {w : World} {mg : Str → Option Value} {base : Heap} {k : Nat} {E : L2.St → XK} {m : Str} {pos apos : Pos} {o : Expr} {pl : Sem Bool} (he : PE X o ta) (hr : Room k X.A) (hx : ∀ σ, PassesAt (L2.CX P w) X σ (E σ))
    (ht : eval (.Call (.Attribute o m apos) [] [] pos) X.env = (do
      let ov ← eval o X.env
      standAt apos.atName
      let (f, first) ← holding [ov] (getMethod ov m pl)
      callWith pos f first (backTo pos (starEach [] X.env)) (backToKw pos (keywordEach [] X.env))) := by rfl)
    (h1 : X.prog = P := by rfl) (h2 : X.w = w := by rfl) (h3 : X.K = K := by rfl) (h4 : X.mg = mg := by rfl) (h5 : X.base = base := by rfl) :
    PE X (.Call (.Attribute o m apos) [] [] pos) (tMethD P w K mg base (L2.CX P w) k m E ta tNil) := by
  subst h1 h2 h3 h4 h5
  exact pe_methD0 he hr hx ht
theorem K_truth (ha : PE X a ta) (he : ∀ whole, isTrue a X.env whole = (do let v ← whole; standAt a.pos; holding [v] (truthy v))) (hK : X.K = K := by rfl) : PT X a (fun σ H Q => ta σ H fun x H' => ∃ k, TruV K x H' k ∧ Q k H') := hK ▸ pt_truth ha he
end
end Kit

namespace My
open PySem L2 Kit

def top (i : Nat) : Stmt := PySem.Challenge.pw_wornpages_k14_page_by_page.main.body.getD i (.Pass ⟨0, 0, 0, 0⟩)
abbrev s_mark_of : Stmt := top 3
abbrev N_mark_of : List Str := ["stamp", "name"]
theorem sc_mark_of : FnScope N_mark_of ["stamp", "name"] (defScope s_mark_of) := ⟨rfl, rfl, rfl, by decide +kernel, rfl, by decide +kernel, by decide +kernel⟩
abbrev s_Book_init : Stmt := inClass (top 5) 0
abbrev N_Book_init : List Str := ["self", "blocks", "pages"]
theorem sc_Book_init : FnScope N_Book_init ["self", "blocks", "pages"] (defScope s_Book_init) := ⟨rfl, rfl, rfl, by decide +kernel, rfl, by decide +kernel, by decide +kernel⟩
abbrev s_Book_mark : Stmt := inClass (top 5) 2
abbrev N_Book_mark : List Str := ["self", "name"]
theorem sc_Book_mark : FnScope N_Book_mark ["self", "name"] (defScope s_Book_mark) := ⟨rfl, rfl, rfl, by decide +kernel, rfl, by decide +kernel, by decide +kernel⟩
abbrev s_Book_note : Stmt := inClass (top 5) 3
abbrev N_Book_note : List Str := ["self", "page", "name", "block"]
theorem sc_Book_note : FnScope N_Book_note ["self", "page", "name"] (defScope s_Book_note) := ⟨rfl, rfl, rfl, by decide +kernel, rfl, by decide +kernel, by decide +kernel⟩
abbrev s_Book_forget : Stmt := inClass (top 5) 4
abbrev N_Book_forget : List Str := ["self", "name", "page"]
theorem sc_Book_forget : FnScope N_Book_forget ["self", "name"] (defScope s_Book_forget) := ⟨rfl, rfl, rfl, by decide +kernel, rfl, by decide +kernel, by decide +kernel⟩
abbrev s_Book_held : Stmt := inClass (top 5) 7
abbrev N_Book_held : List Str := ["self", "name"]
theorem sc_Book_held : FnScope N_Book_held ["self"] (defScope s_Book_held) := ⟨rfl, rfl, rfl, by decide +kernel, rfl, by decide +kernel, by decide +kernel⟩
abbrev s_Book_tell : Stmt := inClass (top 5) 8
abbrev N_Book_tell : List Str := ["self"]
theorem sc_Book_tell : FnScope N_Book_tell ["self"] (defScope s_Book_tell) := ⟨rfl, rfl, rfl, by decide +kernel, rfl, by decide +kernel, by decide +kernel⟩
abbrev s_BlockFailed_init : Stmt := inClass (top 11) 0
abbrev N_BlockFailed_init : List Str := ["self", "block"]
theorem sc_BlockFailed_init : FnScope N_BlockFailed_init ["self", "block"] (defScope s_BlockFailed_init) := ⟨rfl, rfl, rfl, by decide +kernel, rfl, by decide +kernel, by decide +kernel⟩
abbrev s_NotClear_init : Stmt := inClass (top 12) 0
abbrev N_NotClear_init : List Str := ["self", "page"]
theorem sc_NotClear_init : FnScope N_NotClear_init ["self", "page"] (defScope s_NotClear_init) := ⟨rfl, rfl, rfl, by decide +kernel, rfl, by decide +kernel, by decide +kernel⟩
abbrev s_is_whole : Stmt := top 19
abbrev N_is_whole : List Str := ["thing"]
theorem sc_is_whole : FnScope N_is_whole ["thing"] (defScope s_is_whole) := ⟨rfl, rfl, rfl, by decide +kernel, rfl, by decide +kernel, by decide +kernel⟩
abbrev s_is_within : Stmt := top 20
abbrev N_is_within : List Str := ["thing", "low", "high"]
theorem sc_is_within : FnScope N_is_within ["thing", "low", "high"] (defScope s_is_within) := ⟨rfl, rfl, rfl, by decide +kernel, rfl, by decide +kernel, by decide +kernel⟩
abbrev s_Plain_init : Stmt := inClass (top 22) 0
abbrev N_Plain_init : List Str := ["self", "chip", "terms"]
theorem sc_Plain_init : FnScope N_Plain_init ["self", "chip", "terms"] (defScope s_Plain_init) := ⟨rfl, rfl, rfl, by decide +kernel, rfl, by decide +kernel, by decide +kernel⟩
abbrev s_Plain_good : Stmt := inClass (top 22) 1
abbrev N_Plain_good : List Str := ["self", "block"]
theorem sc_Plain_good : FnScope N_Plain_good ["self"] (defScope s_Plain_good) := ⟨rfl, rfl, rfl, by decide +kernel, rfl, by decide +kernel, by decide +kernel⟩
abbrev s_Plain_free : Stmt := inClass (top 22) 2
abbrev N_Plain_free : List Str := ["self", "found", "block", "times"]
theorem sc_Plain_free : FnScope N_Plain_free ["self"] (defScope s_Plain_free) := ⟨rfl, rfl, rfl, by decide +kernel, rfl, by decide +kernel, by decide +kernel⟩
abbrev s_Plain_part : Stmt := inClass (top 22) 3
abbrev N_Plain_part : List Str := ["self", "block"]
theorem sc_Plain_part : FnScope N_Plain_part ["self"] (defScope s_Plain_part) := ⟨rfl, rfl, rfl, by decide +kernel, rfl, by decide +kernel, by decide +kernel⟩
abbrev s_Plain_spot : Stmt := inClass (top 22) 4
abbrev N_Plain_spot : List Str := ["self", "block", "some"]
theorem sc_Plain_spot : FnScope N_Plain_spot ["self"] (defScope s_Plain_spot) := ⟨rfl, rfl, rfl, by decide +kernel, rfl, by decide +kernel, by decide +kernel⟩
abbrev s_Plain_reserve : Stmt := inClass (top 22) 5
abbrev N_Plain_reserve : List Str := ["self"]
theorem sc_Plain_reserve : FnScope N_Plain_reserve ["self"] (defScope s_Plain_reserve) := ⟨rfl, rfl, rfl, by decide +kernel, rfl, by decide +kernel, by decide +kernel⟩
abbrev s_Plain_ready : Stmt := inClass (top 22) 6
abbrev N_Plain_ready : List Str := ["self", "many"]
theorem sc_Plain_ready : FnScope N_Plain_ready ["self"] (defScope s_Plain_ready) := ⟨rfl, rfl, rfl, by decide +kernel, rfl, by decide +kernel, by decide +kernel⟩
abbrev s_Plain_make_ready : Stmt := inClass (top 22) 7
abbrev N_Plain_make_ready : List Str := ["self"]
theorem sc_Plain_make_ready : FnScope N_Plain_make_ready ["self"] (defScope s_Plain_make_ready) := ⟨rfl, rfl, rfl, by decide +kernel, rfl, by decide +kernel, by decide +kernel⟩
abbrev s_Plain_set_down : Stmt := inClass (top 22) 8
abbrev N_Plain_set_down : List Str := ["self", "name", "value", "page"]
theorem sc_Plain_set_down : FnScope N_Plain_set_down ["self", "name", "value"] (defScope s_Plain_set_down) := ⟨rfl, rfl, rfl, by decide +kernel, rfl, by decide +kernel, by decide +kernel⟩
abbrev s_Plain_lay : Stmt := inClass (top 22) 9
abbrev N_Plain_lay : List Str := ["self", "name", "value"]
theorem sc_Plain_lay : FnScope N_Plain_lay ["self", "name", "value"] (defScope s_Plain_lay) := ⟨rfl, rfl, rfl, by decide +kernel, rfl, by decide +kernel, by decide +kernel⟩
abbrev s_Plain_need_sheet : Stmt := inClass (top 22) 10
abbrev N_Plain_need_sheet : List Str := ["self", "sheet"]
theorem sc_Plain_need_sheet : FnScope N_Plain_need_sheet ["self", "sheet"] (defScope s_Plain_need_sheet) := ⟨rfl, rfl, rfl, by decide +kernel, rfl, by decide +kernel, by decide +kernel⟩
abbrev s_Plain_write : Stmt := inClass (top 22) 11
abbrev N_Plain_write : List Str := ["self", "sheet", "value"]
theorem sc_Plain_write : FnScope N_Plain_write ["self", "sheet", "value"] (defScope s_Plain_write) := ⟨rfl, rfl, rfl, by decide +kernel, rfl, by decide +kernel, by decide +kernel⟩
abbrev s_Plain_read : Stmt := inClass (top 22) 13
abbrev N_Plain_read : List Str := ["self", "sheet"]
theorem sc_Plain_read : FnScope N_Plain_read ["self", "sheet"] (defScope s_Plain_read) := ⟨rfl, rfl, rfl, by decide +kernel, rfl, by decide +kernel, by decide +kernel⟩
abbrev s_Plain_held : Stmt := inClass (top 22) 14
abbrev N_Plain_held : List Str := ["self"]
theorem sc_Plain_held : FnScope N_Plain_held ["self"] (defScope s_Plain_held) := ⟨rfl, rfl, rfl, by decide +kernel, rfl, by decide +kernel, by decide +kernel⟩
abbrev s_endurance : Stmt := top 26
abbrev N_endurance : List Str := ["blocks", "ills", "found", "block", "good"]
theorem sc_endurance : FnScope N_endurance ["blocks", "ills"] (defScope s_endurance) := ⟨rfl, rfl, rfl, by decide +kernel, rfl, by decide +kernel, by decide +kernel⟩
abbrev s_Chip_init : Stmt := inClass (top 27) 0
abbrev N_Chip_init : List Str := ["self", "blocks", "pages", "most", "ills"]
abbrev dfl_Chip_init : List V := [V.int (1000000), V.non]
theorem sc_Chip_init : FnScope N_Chip_init ["self", "blocks", "pages", "most", "ills"] (defScope s_Chip_init) := ⟨rfl, rfl, rfl, by decide +kernel, rfl, by decide +kernel, by decide +kernel⟩
abbrev s_Chip_need_page : Stmt := inClass (top 27) 1
abbrev N_Chip_need_page : List Str := ["self", "page"]
theorem sc_Chip_need_page : FnScope N_Chip_need_page ["self", "page"] (defScope s_Chip_need_page) := ⟨rfl, rfl, rfl, by decide +kernel, rfl, by decide +kernel, by decide +kernel⟩
abbrev s_Chip_need_block : Stmt := inClass (top 27) 2
abbrev N_Chip_need_block : List Str := ["self", "block"]
theorem sc_Chip_need_block : FnScope N_Chip_need_block ["self", "block"] (defScope s_Chip_need_block) := ⟨rfl, rfl, rfl, by decide +kernel, rfl, by decide +kernel, by decide +kernel⟩
abbrev s_Chip_need_power : Stmt := inClass (top 27) 3
abbrev N_Chip_need_power : List Str := ["self"]
theorem sc_Chip_need_power : FnScope N_Chip_need_power ["self"] (defScope s_Chip_need_power) := ⟨rfl, rfl, rfl, by decide +kernel, rfl, by decide +kernel, by decide +kernel⟩
abbrev s_Chip_need_good : Stmt := inClass (top 27) 4
abbrev N_Chip_need_good : List Str := ["self", "block"]
theorem sc_Chip_need_good : FnScope N_Chip_need_good ["self", "block"] (defScope s_Chip_need_good) := ⟨rfl, rfl, rfl, by decide +kernel, rfl, by decide +kernel, by decide +kernel⟩
abbrev s_Chip_goes_well : Stmt := inClass (top 27) 5
abbrev N_Chip_goes_well : List Str := ["self", "block", "worn", "well"]
theorem sc_Chip_goes_well : FnScope N_Chip_goes_well ["self", "block", "worn"] (defScope s_Chip_goes_well) := ⟨rfl, rfl, rfl, by decide +kernel, rfl, by decide +kernel, by decide +kernel⟩
abbrev s_Chip_put : Stmt := inClass (top 27) 6
abbrev N_Chip_put : List Str := ["self", "page", "stuff", "block", "well"]
theorem sc_Chip_put : FnScope N_Chip_put ["self", "page", "stuff"] (defScope s_Chip_put) := ⟨rfl, rfl, rfl, by decide +kernel, rfl, by decide +kernel, by decide +kernel⟩
abbrev s_Chip_wipe : Stmt := inClass (top 27) 7
abbrev N_Chip_wipe : List Str := ["self", "block", "well", "place"]
theorem sc_Chip_wipe : FnScope N_Chip_wipe ["self", "block"] (defScope s_Chip_wipe) := ⟨rfl, rfl, rfl, by decide +kernel, rfl, by decide +kernel, by decide +kernel⟩
abbrev s_Chip_read : Stmt := inClass (top 27) 8
abbrev N_Chip_read : List Str := ["self", "page"]
theorem sc_Chip_read : FnScope N_Chip_read ["self", "page"] (defScope s_Chip_read) := ⟨rfl, rfl, rfl, by decide +kernel, rfl, by decide +kernel, by decide +kernel⟩
abbrev s_Chip_is_dark : Stmt := inClass (top 27) 11
abbrev N_Chip_is_dark : List Str := ["self"]
theorem sc_Chip_is_dark : FnScope N_Chip_is_dark ["self"] (defScope s_Chip_is_dark) := ⟨rfl, rfl, rfl, by decide +kernel, rfl, by decide +kernel, by decide +kernel⟩
abbrev s_Chip_cleared : Stmt := inClass (top 27) 12
abbrev N_Chip_cleared : List Str := ["self", "block"]
theorem sc_Chip_cleared : FnScope N_Chip_cleared ["self", "block"] (defScope s_Chip_cleared) := ⟨rfl, rfl, rfl, by decide +kernel, rfl, by decide +kernel, by decide +kernel⟩
abbrev s_Chip_failed : Stmt := inClass (top 27) 13
abbrev N_Chip_failed : List Str := ["self", "block"]
theorem sc_Chip_failed : FnScope N_Chip_failed ["self", "block"] (defScope s_Chip_failed) := ⟨rfl, rfl, rfl, by decide +kernel, rfl, by decide +kernel, by decide +kernel⟩
abbrev s_Chip_deeds : Stmt := inClass (top 27) 14
abbrev N_Chip_deeds : List Str := ["self"]
theorem sc_Chip_deeds : FnScope N_Chip_deeds ["self"] (defScope s_Chip_deeds) := ⟨rfl, rfl, rfl, by decide +kernel, rfl, by decide +kernel, by decide +kernel⟩
abbrev s_Terms_init : Stmt := inClass (top 29) 0
abbrev N_Terms_init : List Str := ["self", "blocks", "pages", "sheets", "share", "ill", "spread"]
abbrev dfl_Terms_init : List V := [V.int (0), V.int (1000000)]
theorem sc_Terms_init : FnScope N_Terms_init ["self", "blocks", "pages", "sheets", "share", "ill", "spread"] (defScope s_Terms_init) := ⟨rfl, rfl, rfl, by decide +kernel, rfl, by decide +kernel, by decide +kernel⟩
abbrev s_Terms_closed : Stmt := inClass (top 29) 1
abbrev N_Terms_closed : List Str := ["self"]
theorem sc_Terms_closed : FnScope N_Terms_closed ["self"] (defScope s_Terms_closed) := ⟨rfl, rfl, rfl, by decide +kernel, rfl, by decide +kernel, by decide +kernel⟩
abbrev s__law_cell_at : Stmt := top 31
abbrev N__law_cell_at : List Str := ["_law_script", "_law_k"]
theorem sc__law_cell_at : FnScope N__law_cell_at ["_law_script", "_law_k"] (defScope s__law_cell_at) := ⟨rfl, rfl, rfl, by decide +kernel, rfl, by decide +kernel, by decide +kernel⟩
abbrev s__law_whole : Stmt := top 32
abbrev N__law_whole : List Str := ["_law_found"]
theorem sc__law_whole : FnScope N__law_whole ["_law_found"] (defScope s__law_whole) := ⟨rfl, rfl, rfl, by decide +kernel, rfl, by decide +kernel, by decide +kernel⟩
abbrev s__law_numbers : Stmt := top 33
abbrev N__law_numbers : List Str := ["_law_found", "_law_due", "_law_number"]
theorem sc__law_numbers : FnScope N__law_numbers ["_law_found", "_law_due"] (defScope s__law_numbers) := ⟨rfl, rfl, rfl, by decide +kernel, rfl, by decide +kernel, by decide +kernel⟩
abbrev s__law_same : Stmt := top 34
abbrev N__law_same : List Str := ["_law_found", "_law_due"]
theorem sc__law_same : FnScope N__law_same ["_law_found", "_law_due"] (defScope s__law_same) := ⟨rfl, rfl, rfl, by decide +kernel, rfl, by decide +kernel, by decide +kernel⟩
abbrev s__law_done : Stmt := top 35
abbrev N__law_done : List Str := ["_law_mine", "_law_block", "_law_well"]
theorem sc__law_done : FnScope N__law_done ["_law_mine", "_law_block"] (defScope s__law_done) := ⟨rfl, rfl, rfl, by decide +kernel, rfl, by decide +kernel, by decide +kernel⟩
abbrev s__law_wiped : Stmt := top 36
abbrev N__law_wiped : List Str := ["_law_chip", "_law_mine", "_law_block", "_law_well"]
theorem sc__law_wiped : FnScope N__law_wiped ["_law_chip", "_law_mine", "_law_block"] (defScope s__law_wiped) := ⟨rfl, rfl, rfl, by decide +kernel, rfl, by decide +kernel, by decide +kernel⟩
abbrev s__law_good : Stmt := top 37
abbrev N__law_good : List Str := ["_law_mine", "_law_block"]
theorem sc__law_good : FnScope N__law_good ["_law_mine"] (defScope s__law_good) := ⟨rfl, rfl, rfl, by decide +kernel, rfl, by decide +kernel, by decide +kernel⟩
abbrev s__law_free : Stmt := top 38
abbrev N__law_free : List Str := ["_law_mine", "_law_some", "_law_block", "_law_times"]
theorem sc__law_free : FnScope N__law_free ["_law_mine"] (defScope s__law_free) := ⟨rfl, rfl, rfl, by decide +kernel, rfl, by decide +kernel, by decide +kernel⟩
abbrev s__law_part : Stmt := top 39
abbrev N__law_part : List Str := ["_law_mine", "_law_block"]
theorem sc__law_part : FnScope N__law_part ["_law_mine"] (defScope s__law_part) := ⟨rfl, rfl, rfl, by decide +kernel, rfl, by decide +kernel, by decide +kernel⟩
abbrev s__law_spot : Stmt := top 40
abbrev N__law_spot : List Str := ["_law_mine", "_law_block"]
theorem sc__law_spot : FnScope N__law_spot ["_law_mine"] (defScope s__law_spot) := ⟨rfl, rfl, rfl, by decide +kernel, rfl, by decide +kernel, by decide +kernel⟩
abbrev s__law_asks : Stmt := top 41
abbrev N__law_asks : List Str := ["_law_store", "_law_mine", "_law_found", "_law_good_here", "_law_ready"]
theorem sc__law_asks : FnScope N__law_asks ["_law_store", "_law_mine"] (defScope s__law_asks) := ⟨rfl, rfl, rfl, by decide +kernel, rfl, by decide +kernel, by decide +kernel⟩
abbrev s__law_set : Stmt := top 42
abbrev N__law_set : List Str := ["_law_store", "_law_name", "_law_number", "_law_word", "_law_at", "e"]
theorem sc__law_set : FnScope N__law_set ["_law_store", "_law_name", "_law_number"] (defScope s__law_set) := ⟨rfl, rfl, rfl, by decide +kernel, rfl, by decide +kernel, by decide +kernel⟩
abbrev s__law_unready : Stmt := top 43
abbrev N__law_unready : List Str := ["_law_store", "_law_outcome"]
theorem sc__law_unready : FnScope N__law_unready ["_law_store"] (defScope s__law_unready) := ⟨rfl, rfl, rfl, by decide +kernel, rfl, by decide +kernel, by decide +kernel⟩
abbrev s__law_step : Stmt := top 44
abbrev N__law_step : List Str := ["_law_store", "_law_mine", "_law_cell", "_law_spot_here", "_law_name", "_law_number", "_law_block", "_law_word", "_law_at"]
theorem sc__law_step : FnScope N__law_step ["_law_store", "_law_mine", "_law_cell"] (defScope s__law_step) := ⟨rfl, rfl, rfl, by decide +kernel, rfl, by decide +kernel, by decide +kernel⟩
abbrev s__law_lies : Stmt := top 45
abbrev N__law_lies : List Str := ["_law_chip", "_law_row", "_law_found"]
theorem sc__law_lies : FnScope N__law_lies ["_law_chip", "_law_row"] (defScope s__law_lies) := ⟨rfl, rfl, rfl, by decide +kernel, rfl, by decide +kernel, by decide +kernel⟩
abbrev s_law : Stmt := top 46
abbrev N_law : List Str := ["_law_script", "_law_blocks", "_law_pages", "_law_mine", "_law_ills", "_law_block", "_law_cell", "_law_chip", "_law_turn", "_law_ill", "_law_store", "_law_k", "_law_row"]
theorem sc_law : FnScope N_law ["_law_script"] (defScope s_law) := ⟨rfl, rfl, rfl, by decide +kernel, rfl, by decide +kernel, by decide +kernel⟩
/-! steps of a reading: "s" one step, "go" as far as it goes -/
local macro_rules | `(tactic| walk_at "sq") => `(tactic| first | assumption | exact SqL.of (by assumption) | exact SqT.of (by assumption) | (refine' Same.seq ?hsm ?hsq; (case hsm => assumption); (case hsq => walk_at "sq")) | (refine' SqL.of ?hhq; (case hhq => walk_at "hp")) | (refine SqT.of ?_; walk_at "hp"))
local macro_rules | `(tactic| walk_at "hp") => `(tactic| first | assumption | (refine' (show Same _ _ by assumption) _ _ ?hhp; (case hhp => walk_at "hp")))
local macro_rules | `(tactic| walk_at "nin") => `(tactic| first | exact nin_of (by assumption) | exact nin_of (Ne.symm (by assumption)))
local macro_rules | `(tactic| walk_at "off") => `(tactic| first | exact Off.refl | exact Off.of (by assumption) | exact Off.sub (by assumption) (by intro b hb; rw [List.mem_singleton] at hb; subst hb; simp) | (refine Off.trans ?_ (Off.of (by assumption)); walk_at "off") | (refine Off.trans ?_ (Off.sub (by assumption) (by intro b hb; rw [List.mem_singleton] at hb; subst hb; simp)); walk_at "off") | (refine Off.trans ?_ (by assumption); walk_at "off"))
local macro_rules | `(tactic| walk_at "hp") => `(tactic| first | assumption | (refine' Off.at ?hO1 ?hO3 ?hO2; (case hO1 => assumption); (case hO2 => walk_at "nin"); (case hO3 => walk_at "hp")) | (refine' Off.lst ?hO1 ?hO2 ?hO3; (case hO1 => assumption); (case hO2 => assumption); (case hO3 => walk_at "hp")) | (refine' (show Same _ _ by assumption) _ _ ?hhp; (case hhp => walk_at "hp")))
local macro_rules | `(tactic| walk_at "nn") => `(tactic| (refine' ne_of_none ?nna ?nnb; (case nnb => assumption); (case nna => walk_at "hp")))
local macro_rules | `(tactic| walk_at "side") => `(tactic| first | assumption | decide | omega | exact ⟨by decide, by decide, by decide⟩ | exact ⟨by decide, by decide +kernel⟩ | exact Or.inr ⟨by decide, by decide⟩ | exact ⟨by omega, by omega⟩ | exact Or.inl ⟨by omega, by omega⟩ | exact Or.inr ⟨by omega, by omega⟩ | exact cdivW (by omega) (by omega) | (simp only [List.length_cons, List.length_nil, List.length_append, Nat.zero_add, Nat.reduceAdd, Nat.reduceMul]; decide) | (simp only [List.length_append, List.length_cons, List.length_nil, List.length_map]; omega) | (simp; done))
local macro_rules | `(tactic| walk_at "isi") => `(tactic| first
  | with_reducible refine x_isiNon_int ?_
  | with_reducible refine x_isiNon_bool ?_
  | with_reducible refine x_isiNon_str ?_
  | with_reducible refine x_isiNon_list ?_
  | with_reducible refine x_isiNon_tuple ?_
  | with_reducible refine x_isiNon_dict ?_
  | with_reducible refine x_isiBl_int ?_
  | with_reducible refine x_isiBl_bool ?_
  | with_reducible refine x_isiBl_str ?_
  | with_reducible refine x_isiBl_list ?_
  | with_reducible refine x_isiBl_tuple ?_
  | with_reducible refine x_isiBl_dict ?_
  | with_reducible refine x_isiInt_int ?_
  | with_reducible refine x_isiInt_bool ?_
  | with_reducible refine x_isiInt_str ?_
  | with_reducible refine x_isiInt_list ?_
  | with_reducible refine x_isiInt_tuple ?_
  | with_reducible refine x_isiInt_dict ?_
  | with_reducible refine x_isiStr_int ?_
  | with_reducible refine x_isiStr_bool ?_
  | with_reducible refine x_isiStr_str ?_
  | with_reducible refine x_isiStr_list ?_
  | with_reducible refine x_isiStr_tuple ?_
  | with_reducible refine x_isiStr_dict ?_
  | with_reducible refine x_isiLst_int (by assumption) ?_
  | with_reducible refine x_isiLst_bool (by assumption) ?_
  | with_reducible refine x_isiLst_str (by assumption) ?_
  | with_reducible refine x_isiLst_list (by assumption) ?_
  | with_reducible refine x_isiLst_tuple (by assumption) ?_
  | with_reducible refine x_isiLst_dict (by assumption) ?_
  | with_reducible refine x_isiTup_int (by assumption) ?_
  | with_reducible refine x_isiTup_bool (by assumption) ?_
  | with_reducible refine x_isiTup_str (by assumption) ?_
  | with_reducible refine x_isiTup_list (by assumption) ?_
  | with_reducible refine x_isiTup_tuple (by assumption) ?_
  | with_reducible refine x_isiTup_dict (by assumption) ?_
  | with_reducible refine x_isiDk_int (by assumption) ?_
  | with_reducible refine x_isiDk_bool (by assumption) ?_
  | with_reducible refine x_isiDk_str (by assumption) ?_
  | with_reducible refine x_isiDk_list (by assumption) ?_
  | with_reducible refine x_isiDk_tuple (by assumption) ?_
  | with_reducible refine x_isiDk_dict (by assumption) ?_)
local macro_rules | `(tactic| walk_at "s") => `(tactic| first
  | walk_at "u"
  | with_reducible refine x_seqA ?_
  | with_reducible refine x_seqD ?_
  | with_reducible refine x_seqF ?_
  | with_reducible refine x_seqFA ?_
  | with_reducible refine x_seqAug ?_
  | with_reducible refine x_asg ?_
  | ((with_reducible refine' x_var ?hv ?_); case hv => exact rfl)
  | with_reducible refine x_c ?_
  | with_reducible refine x_op ?_
  | with_reducible refine x_cb ?_
  | with_reducible refine x_cons ?_
  | with_reducible refine x_nil ?_
  | ((with_reducible refine x_gname ?_); (try dsimp only [List.set]))
  | with_reducible refine x_if ?_
  | with_reducible refine x_ret ?_
  | with_reducible refine x_test ?_
  | ((with_reducible refine x_isbl ?_); try dsimp only)
  | ((with_reducible refine x_truBl ?_); try dsimp only)
  | with_reducible refine x_callS ?_
  | with_reducible refine x_iteT ?_
  | with_reducible refine x_iteF ?_
  | with_reducible refine x_iteN ?_
  | with_reducible refine x_I0 ?_
  | with_reducible refine x_addI ?_
  | with_reducible refine x_lt ?_
  | ((with_reducible refine x_pow ?_ ?hs); (try (case hs => walk_at "side")); (try simp only [Int.reduceToNat]))
  | ((with_reducible refine x_I ?_ ?hs); (try (case hs => walk_at "side")))
  | ((with_reducible refine x_mulI ?_ ?hs); (case hs => walk_at "side"))
  | ((with_reducible refine x_mulU ?_ ?hs); (try (case hs => walk_at "side")))
  | with_reducible refine x_eqI ?_
  | with_reducible refine x_neI ?_
  | with_reducible refine x_eqB ?_
  | with_reducible refine x_neB ?_
  | with_reducible refine x_eqS ?_
  | with_reducible refine x_andT ?_
  | with_reducible refine x_orT ?_
  | with_reducible refine x_notT ?_
  | with_reducible refine x_and ?_
  | with_reducible refine x_or ?_
  | with_reducible refine x_not ?_
  | with_reducible refine x_chain ?_
  | with_reducible refine x_tB ?_
  | with_reducible refine x_tup ?_
  | with_reducible refine x_lst ?_
  | with_reducible refine x_un ?_
  | ((with_reducible refine x_nwL ?_ ?hs); (try (case hs => walk_at "side")); intro p H1 hp hs hn)
  | ((with_reducible refine x_nwT ?_ ?hs); (try (case hs => walk_at "side")); intro p H1 hp hs hn)
  | ((with_reducible refine' x_addL ?h1 ?h2 ?_ ?hs); (case h1 => walk_at "hp"); (case h2 => walk_at "hp"); (try (case hs => walk_at "side")); intro p H1 hp hs hn)
  | ((with_reducible refine' x_rep1 ?h1 ?_ ?h0); (case h1 => walk_at "hp"); (try (case h0 => walk_at "side")); intro p H1 hp hs hn)
  | ((with_reducible refine' x_rep ?h1 ?_ ?h2 ?h0 ?hs); (case h1 => walk_at "hp"); (try (case h2 => walk_at "side")); (try (case h0 => walk_at "side")); (try (case hs => walk_at "side")); intro p H1 hp hs hn)
  | ((with_reducible refine' x_addS ?_ ?hs); (try (case hs => walk_at "side")))
  | with_reducible refine x_U ?_
  | with_reducible refine x_drop ?_
  | with_reducible refine x_retN ?_
  | ((with_reducible refine x_next ?_); try dsimp only)
  | with_reducible refine x_ifExp ?_
  | ((with_reducible refine' x_lenM ?hq ?_); case hq => walk_at "sq")
  | ((with_reducible refine' x_lenL ?hq ?_); case hq => walk_at "sq")
  | ((with_reducible refine' x_lenD ?hq ?_); case hq => walk_at "hp")
  | ((with_reducible refine' x_lenT ?hq ?_); case hq => walk_at "sq")
  | ((with_reducible refine' x_ixH ?hq ?_); (case hq => walk_at "sq"))
  | ((with_reducible refine' x_ixS ?hq ?ha ?_); (case hq => walk_at "sq"); (case ha => first | assumption | exact rfl))
  | ((with_reducible refine' x_ixI ?hq ?_ ?h0 ?h1); (case hq => walk_at "sq"); (try (case h0 => walk_at "side")); (try (case h1 => walk_at "side")))
  | ((with_reducible refine' x_ixB ?hq ?_ ?h0 ?h1); (case hq => walk_at "sq"); (try (case h0 => walk_at "side")); (try (case h1 => walk_at "side")))
  | ((with_reducible refine' x_ixL ?hq ?_ ?h0 ?h1); (case hq => walk_at "sq"); (try (case h0 => walk_at "side")); (try (case h1 => walk_at "side")))
  | ((with_reducible refine' x_ixT ?hq ?ha ?_); (case hq => walk_at "sq"); case ha => exact rfl)
  | walk_at "isi"
  | with_reducible refine x_bm ?_
  | ((with_reducible refine' x_bmL ?hq ?_); (case hq => walk_at "sq"))
  | with_reducible refine x_bm0 ?_
  | ((with_reducible refine' x_bm0L ?hq ?_); (case hq => walk_at "sq"))
  | ((with_reducible refine' x_append ?ho ?_ ?hl); (case ho => walk_at "hp"); (try (case hl => walk_at "side")))
  | ((with_reducible refine' x_clear ?ho ?_); (case ho => walk_at "hp"))
  | with_reducible refine x_slice ?_
  | with_reducible refine x_noPart ?_
  | with_reducible refine x_part ?_
  | with_reducible refine x_ptK ?_
  | ((with_reducible refine' x_slL ?hq ?_); (case hq => walk_at "sq"); intro p H1 hp hs hn)
  | with_reducible refine x_forL ?_
  | with_reducible refine x_forT ?_
  | with_reducible refine x_forS ?_
  | with_reducible refine x_forR1 ?_
  | with_reducible refine x_forR2 ?_
  | with_reducible refine x_forEn ?_
  | with_reducible refine x_forZ ?_
  | with_reducible refine x_lcL ?_
  | with_reducible refine x_lcR1 ?_
  | with_reducible refine x_lcR2 ?_
  | with_reducible refine x_yes ?_
  | ((with_reducible refine x_mk0 ?_); intro p dp H1 hp hdp hne hs hn hd)
  | with_reducible refine x_mkS ?_
  | ((with_reducible refine x_mkK ?_); intro p dp H1 hp hdp hne hs hn hd)
  | with_reducible refine x_methD ?_
  | with_reducible refine x_fldAug ?_
  | with_reducible refine x_dget ?_
  | ((with_reducible refine' x_dgS ?ho ?hv ?_); (case ho => walk_at "hp"); (case hv => exact rfl); (try dsimp only))
  | with_reducible refine x_dput ?_
  | with_reducible refine x_seqDP ?_
  | with_reducible refine x_prN ?_
  | with_reducible refine x_prC ?_
  | ((with_reducible refine x_disp ?_); intro p H1 hp hs hn)
  | ((with_reducible refine x_dnew ?_); intro p H1 hp hs hn)
  | with_reducible refine x_din ?_
  | with_reducible refine x_dget1 ?_
  | with_reducible refine x_dsetd ?_
  | with_reducible refine x_dpop1 ?_
  | with_reducible refine x_dpop2 ?_
  | ((with_reducible refine' x_dinI ?ho ?_); (case ho => walk_at "hp"))
  | ((with_reducible refine' x_dg1K ?ho ?_); (case ho => walk_at "hp"))
  | ((with_reducible refine' x_dg1I ?ho ?_); (case ho => walk_at "hp"))
  | ((with_reducible refine' x_dsK ?ho ?_); (case ho => walk_at "hp"))
  | ((with_reducible refine' x_dpp1K ?ho ?_); (case ho => walk_at "hp"))
  | ((with_reducible refine' x_dpp2K ?ho ?_); (case ho => walk_at "hp"))
  | with_reducible refine x_augS ?_
  | with_reducible refine x_seqAS ?_
  | with_reducible refine x_rSub ?_
  | ((with_reducible refine' x_getI ?hq ?_ ?h0 ?h1); (case hq => walk_at "sq"); (try (case h0 => walk_at "side")); (try (case h1 => walk_at "side")))
  | ((with_reducible refine' x_getL ?hq ?_ ?h0 ?h1); (case hq => walk_at "sq"); (try (case h0 => walk_at "side")); (try (case h1 => walk_at "side")))
  | with_reducible refine x_gsub ?_
  | ((with_reducible refine' x_setL ?ho ?_ ?h0 ?h1); (case ho => walk_at "hp"); (try (case h0 => walk_at "side")); (try (case h1 => walk_at "side")); intro H1 hO hI; (try dsimp only))
  | ((with_reducible refine' x_sfN ?ho ?hf ?_ ?hc ?hn ?hl); (case ho => walk_at "hp"); (case hf => exact rfl); (case hc => walk_at "cls"); (case hn => walk_at "na"); (case hl => exact Nat.le_of_ble_eq_true rfl); intro H1 hO hI; (dsimp only [List.cons_append, List.nil_append] at hI); (try dsimp only))
  | ((with_reducible refine' x_fldK ?ho ?hf ?_ ?hc ?hn); (case ho => walk_at "hp"); (case hf => exact rfl); (case hc => walk_at "cls"); (case hn => walk_at "na"))
  | ((with_reducible refine' x_aug ?hv ?_); case hv => exact rfl)
  | ((with_reducible refine x_ipI ?_); (try dsimp only [List.set]))
  | with_reducible refine x_rAdd ?_
  | with_reducible refine x_isB ?_
  | with_reducible refine x_isNotB ?_
  | with_reducible refine x_isN ?_
  | with_reducible refine x_isNotN ?_
  | ((with_reducible refine' x_inI ?hq ?_); (case hq => walk_at "sq"))
  | ((with_reducible refine' x_notInI ?hq ?_); (case hq => walk_at "sq"))
  | ((with_reducible refine x_intB ?_); try dsimp only)
  | with_reducible refine x_intI ?_
  | with_reducible refine x_raise ?_
  | with_reducible refine x_seqR ?_
  | with_reducible refine x_mkE ?_
  | with_reducible refine x_try1 ?_
  | with_reducible refine x_seqT1 ?_
  | with_reducible refine x_tryA ?_
  | with_reducible refine x_seqTA ?_
  | with_reducible refine x_tryM ?_
  | with_reducible refine x_seqTM ?_
  | with_reducible refine x_mix ?_
  | with_reducible refine x_seqMix ?_
  | with_reducible refine x_xf ?_
  | with_reducible refine x_mkO ?_
  | with_reducible refine x_vei ?_
  | with_reducible refine x_fld ?_
  | with_reducible refine x_sfld ?_
  | ((with_reducible refine' x_gtup2 ?hq ?_); (case hq => walk_at "sq"); (try dsimp only [List.set]))
  | with_reducible refine x_max2 ?_
  | with_reducible refine x_min2 ?_
  | ((with_reducible refine' x_list ?hq ?_); (case hq => walk_at "sq"); intro p H1 hp hs hn)
  | with_reducible refine x_listRev ?_
  | ((with_reducible refine' x_lrK ?hq ?_); (case hq => walk_at "sq"); intro p H1 hp hs hn)
  | ((with_reducible refine' x_tupL ?hq ?_); (case hq => walk_at "sq"); intro p H1 hp hs hn)
  | ((with_reducible refine' x_listD ?hq ?_); (case hq => walk_at "hp"); intro p H1 hp hs hn)
  | ((with_reducible refine x_shl ?_ ?hs); (try (case hs => walk_at "side")))
  | ((with_reducible refine x_str ?_ ?hs); (try (case hs => walk_at "side"))))
local macro_rules | `(tactic| walk_at "go") => `(tactic| repeat walk_at "s")
local macro_rules | `(tactic| walk_at "begin") => `(tactic| simp only [cxOf, L2.start, List.map, List.length_cons, List.length_nil, List.replicate, Nat.reduceAdd, Nat.reduceSub, List.cons_append, List.nil_append])
local macro_rules | `(tactic| walk_at "if") => `(tactic| ((with_reducible refine x_seq ?_); repeat walk_at "s"))


--#LAWSPEC 12

structure Txt (K : PySem.W.Frag) (mg : Str → Option Value) where
  a_mark_of : Addr
  fd_mark_of : FuncData
  F_mark_of : Fun K "mark_of" "mark_of" s_mark_of a_mark_of fd_mark_of
  bd_mark_of : Binds K fd_mark_of ["stamp", "name"] []
  k_mark_of : PySem.W.keepIn K (.ref a_mark_of) = true
  g_mark_of : mg "mark_of" = some (.ref a_mark_of)
  a_Book_init : Addr
  fd_Book_init : FuncData
  F_Book_init : Fun K "__init__" "Book.__init__" s_Book_init a_Book_init fd_Book_init
  bd_Book_init : Binds K fd_Book_init ["self", "blocks", "pages"] []
  k_Book_init : PySem.W.keepIn K (.ref a_Book_init) = true
  a_Book_mark : Addr
  fd_Book_mark : FuncData
  F_Book_mark : Fun K "mark" "Book.mark" s_Book_mark a_Book_mark fd_Book_mark
  bd_Book_mark : Binds K fd_Book_mark ["self", "name"] []
  k_Book_mark : PySem.W.keepIn K (.ref a_Book_mark) = true
  a_Book_note : Addr
  fd_Book_note : FuncData
  F_Book_note : Fun K "note" "Book.note" s_Book_note a_Book_note fd_Book_note
  bd_Book_note : Binds K fd_Book_note ["self", "page", "name"] []
  k_Book_note : PySem.W.keepIn K (.ref a_Book_note) = true
  a_Book_forget : Addr
  fd_Book_forget : FuncData
  F_Book_forget : Fun K "forget" "Book.forget" s_Book_forget a_Book_forget fd_Book_forget
  bd_Book_forget : Binds K fd_Book_forget ["self", "name"] []
  k_Book_forget : PySem.W.keepIn K (.ref a_Book_forget) = true
  a_Book_held : Addr
  fd_Book_held : FuncData
  F_Book_held : Fun K "held" "Book.held" s_Book_held a_Book_held fd_Book_held
  bd_Book_held : Binds K fd_Book_held ["self"] []
  k_Book_held : PySem.W.keepIn K (.ref a_Book_held) = true
  a_Book_tell : Addr
  fd_Book_tell : FuncData
  F_Book_tell : Fun K "tell" "Book.tell" s_Book_tell a_Book_tell fd_Book_tell
  bd_Book_tell : Binds K fd_Book_tell ["self"] []
  k_Book_tell : PySem.W.keepIn K (.ref a_Book_tell) = true
  a_BlockFailed_init : Addr
  fd_BlockFailed_init : FuncData
  F_BlockFailed_init : Fun K "__init__" "BlockFailed.__init__" s_BlockFailed_init a_BlockFailed_init fd_BlockFailed_init
  bd_BlockFailed_init : Binds K fd_BlockFailed_init ["self", "block"] []
  k_BlockFailed_init : PySem.W.keepIn K (.ref a_BlockFailed_init) = true
  a_NotClear_init : Addr
  fd_NotClear_init : FuncData
  F_NotClear_init : Fun K "__init__" "NotClear.__init__" s_NotClear_init a_NotClear_init fd_NotClear_init
  bd_NotClear_init : Binds K fd_NotClear_init ["self", "page"] []
  k_NotClear_init : PySem.W.keepIn K (.ref a_NotClear_init) = true
  a_is_whole : Addr
  fd_is_whole : FuncData
  F_is_whole : Fun K "is_whole" "is_whole" s_is_whole a_is_whole fd_is_whole
  bd_is_whole : Binds K fd_is_whole ["thing"] []
  k_is_whole : PySem.W.keepIn K (.ref a_is_whole) = true
  g_is_whole : mg "is_whole" = some (.ref a_is_whole)
  a_is_within : Addr
  fd_is_within : FuncData
  F_is_within : Fun K "is_within" "is_within" s_is_within a_is_within fd_is_within
  bd_is_within : Binds K fd_is_within ["thing", "low", "high"] []
  k_is_within : PySem.W.keepIn K (.ref a_is_within) = true
  g_is_within : mg "is_within" = some (.ref a_is_within)
  a_Plain_init : Addr
  fd_Plain_init : FuncData
  F_Plain_init : Fun K "__init__" "Plain.__init__" s_Plain_init a_Plain_init fd_Plain_init
  bd_Plain_init : Binds K fd_Plain_init ["self", "chip", "terms"] []
  k_Plain_init : PySem.W.keepIn K (.ref a_Plain_init) = true
  a_Plain_good : Addr
  fd_Plain_good : FuncData
  F_Plain_good : Fun K "good" "Plain.good" s_Plain_good a_Plain_good fd_Plain_good
  bd_Plain_good : Binds K fd_Plain_good ["self"] []
  k_Plain_good : PySem.W.keepIn K (.ref a_Plain_good) = true
  a_Plain_free : Addr
  fd_Plain_free : FuncData
  F_Plain_free : Fun K "free" "Plain.free" s_Plain_free a_Plain_free fd_Plain_free
  bd_Plain_free : Binds K fd_Plain_free ["self"] []
  k_Plain_free : PySem.W.keepIn K (.ref a_Plain_free) = true
  a_Plain_part : Addr
  fd_Plain_part : FuncData
  F_Plain_part : Fun K "part" "Plain.part" s_Plain_part a_Plain_part fd_Plain_part
  bd_Plain_part : Binds K fd_Plain_part ["self"] []
  k_Plain_part : PySem.W.keepIn K (.ref a_Plain_part) = true
  a_Plain_spot : Addr
  fd_Plain_spot : FuncData
  F_Plain_spot : Fun K "spot" "Plain.spot" s_Plain_spot a_Plain_spot fd_Plain_spot
  bd_Plain_spot : Binds K fd_Plain_spot ["self"] []
  k_Plain_spot : PySem.W.keepIn K (.ref a_Plain_spot) = true
  a_Plain_reserve : Addr
  fd_Plain_reserve : FuncData
  F_Plain_reserve : Fun K "reserve" "Plain.reserve" s_Plain_reserve a_Plain_reserve fd_Plain_reserve
  bd_Plain_reserve : Binds K fd_Plain_reserve ["self"] []
  k_Plain_reserve : PySem.W.keepIn K (.ref a_Plain_reserve) = true
  a_Plain_ready : Addr
  fd_Plain_ready : FuncData
  F_Plain_ready : Fun K "ready" "Plain.ready" s_Plain_ready a_Plain_ready fd_Plain_ready
  bd_Plain_ready : Binds K fd_Plain_ready ["self"] []
  k_Plain_ready : PySem.W.keepIn K (.ref a_Plain_ready) = true
  a_Plain_make_ready : Addr
  fd_Plain_make_ready : FuncData
  F_Plain_make_ready : Fun K "make_ready" "Plain.make_ready" s_Plain_make_ready a_Plain_make_ready fd_Plain_make_ready
  bd_Plain_make_ready : Binds K fd_Plain_make_ready ["self"] []
  k_Plain_make_ready : PySem.W.keepIn K (.ref a_Plain_make_ready) = true
  a_Plain_set_down : Addr
  fd_Plain_set_down : FuncData
  F_Plain_set_down : Fun K "set_down" "Plain.set_down" s_Plain_set_down a_Plain_set_down fd_Plain_set_down
  bd_Plain_set_down : Binds K fd_Plain_set_down ["self", "name", "value"] []
  k_Plain_set_down : PySem.W.keepIn K (.ref a_Plain_set_down) = true
  a_Plain_lay : Addr
  fd_Plain_lay : FuncData
  F_Plain_lay : Fun K "lay" "Plain.lay" s_Plain_lay a_Plain_lay fd_Plain_lay
  bd_Plain_lay : Binds K fd_Plain_lay ["self", "name", "value"] []
  k_Plain_lay : PySem.W.keepIn K (.ref a_Plain_lay) = true
  a_Plain_need_sheet : Addr
  fd_Plain_need_sheet : FuncData
  F_Plain_need_sheet : Fun K "need_sheet" "Plain.need_sheet" s_Plain_need_sheet a_Plain_need_sheet fd_Plain_need_sheet
  bd_Plain_need_sheet : Binds K fd_Plain_need_sheet ["self", "sheet"] []
  k_Plain_need_sheet : PySem.W.keepIn K (.ref a_Plain_need_sheet) = true
  a_Plain_write : Addr
  fd_Plain_write : FuncData
  F_Plain_write : Fun K "write" "Plain.write" s_Plain_write a_Plain_write fd_Plain_write
  bd_Plain_write : Binds K fd_Plain_write ["self", "sheet", "value"] []
  k_Plain_write : PySem.W.keepIn K (.ref a_Plain_write) = true
  a_Plain_read : Addr
  fd_Plain_read : FuncData
  F_Plain_read : Fun K "read" "Plain.read" s_Plain_read a_Plain_read fd_Plain_read
  bd_Plain_read : Binds K fd_Plain_read ["self", "sheet"] []
  k_Plain_read : PySem.W.keepIn K (.ref a_Plain_read) = true
  a_Plain_held : Addr
  fd_Plain_held : FuncData
  F_Plain_held : Fun K "held" "Plain.held" s_Plain_held a_Plain_held fd_Plain_held
  bd_Plain_held : Binds K fd_Plain_held ["self"] []
  k_Plain_held : PySem.W.keepIn K (.ref a_Plain_held) = true
  a_endurance : Addr
  fd_endurance : FuncData
  F_endurance : Fun K "endurance" "endurance" s_endurance a_endurance fd_endurance
  bd_endurance : Binds K fd_endurance ["blocks", "ills"] []
  k_endurance : PySem.W.keepIn K (.ref a_endurance) = true
  g_endurance : mg "endurance" = some (.ref a_endurance)
  a_Chip_init : Addr
  fd_Chip_init : FuncData
  F_Chip_init : FunD K "__init__" "Chip.__init__" (defArgs s_Chip_init) (defBody s_Chip_init) (defScope s_Chip_init) dfl_Chip_init [] a_Chip_init fd_Chip_init
  ds0_Chip_init : List Value
  dv0_Chip_init : Vals (dfl_Chip_init.drop 2) ds0_Chip_init
  bd0_Chip_init : Binds K fd_Chip_init ["self", "blocks", "pages", "most", "ills"] ds0_Chip_init
  ds2_Chip_init : List Value
  dv2_Chip_init : Vals (dfl_Chip_init.drop 0) ds2_Chip_init
  bd2_Chip_init : Binds K fd_Chip_init ["self", "blocks", "pages", "most", "ills"] ds2_Chip_init
  k_Chip_init : PySem.W.keepIn K (.ref a_Chip_init) = true
  a_Chip_need_page : Addr
  fd_Chip_need_page : FuncData
  F_Chip_need_page : Fun K "need_page" "Chip.need_page" s_Chip_need_page a_Chip_need_page fd_Chip_need_page
  bd_Chip_need_page : Binds K fd_Chip_need_page ["self", "page"] []
  k_Chip_need_page : PySem.W.keepIn K (.ref a_Chip_need_page) = true
  a_Chip_need_block : Addr
  fd_Chip_need_block : FuncData
  F_Chip_need_block : Fun K "need_block" "Chip.need_block" s_Chip_need_block a_Chip_need_block fd_Chip_need_block
  bd_Chip_need_block : Binds K fd_Chip_need_block ["self", "block"] []
  k_Chip_need_block : PySem.W.keepIn K (.ref a_Chip_need_block) = true
  a_Chip_need_power : Addr
  fd_Chip_need_power : FuncData
  F_Chip_need_power : Fun K "need_power" "Chip.need_power" s_Chip_need_power a_Chip_need_power fd_Chip_need_power
  bd_Chip_need_power : Binds K fd_Chip_need_power ["self"] []
  k_Chip_need_power : PySem.W.keepIn K (.ref a_Chip_need_power) = true
  a_Chip_need_good : Addr
  fd_Chip_need_good : FuncData
  F_Chip_need_good : Fun K "need_good" "Chip.need_good" s_Chip_need_good a_Chip_need_good fd_Chip_need_good
  bd_Chip_need_good : Binds K fd_Chip_need_good ["self", "block"] []
  k_Chip_need_good : PySem.W.keepIn K (.ref a_Chip_need_good) = true
  a_Chip_goes_well : Addr
  fd_Chip_goes_well : FuncData
  F_Chip_goes_well : Fun K "goes_well" "Chip.goes_well" s_Chip_goes_well a_Chip_goes_well fd_Chip_goes_well
  bd_Chip_goes_well : Binds K fd_Chip_goes_well ["self", "block", "worn"] []
  k_Chip_goes_well : PySem.W.keepIn K (.ref a_Chip_goes_well) = true
  a_Chip_put : Addr
  fd_Chip_put : FuncData
  F_Chip_put : Fun K "put" "Chip.put" s_Chip_put a_Chip_put fd_Chip_put
  bd_Chip_put : Binds K fd_Chip_put ["self", "page", "stuff"] []
  k_Chip_put : PySem.W.keepIn K (.ref a_Chip_put) = true
  a_Chip_wipe : Addr
  fd_Chip_wipe : FuncData
  F_Chip_wipe : Fun K "wipe" "Chip.wipe" s_Chip_wipe a_Chip_wipe fd_Chip_wipe
  bd_Chip_wipe : Binds K fd_Chip_wipe ["self", "block"] []
  k_Chip_wipe : PySem.W.keepIn K (.ref a_Chip_wipe) = true
  a_Chip_read : Addr
  fd_Chip_read : FuncData
  F_Chip_read : Fun K "read" "Chip.read" s_Chip_read a_Chip_read fd_Chip_read
  bd_Chip_read : Binds K fd_Chip_read ["self", "page"] []
  k_Chip_read : PySem.W.keepIn K (.ref a_Chip_read) = true
  a_Chip_is_dark : Addr
  fd_Chip_is_dark : FuncData
  F_Chip_is_dark : Fun K "is_dark" "Chip.is_dark" s_Chip_is_dark a_Chip_is_dark fd_Chip_is_dark
  bd_Chip_is_dark : Binds K fd_Chip_is_dark ["self"] []
  k_Chip_is_dark : PySem.W.keepIn K (.ref a_Chip_is_dark) = true
  a_Chip_cleared : Addr
  fd_Chip_cleared : FuncData
  F_Chip_cleared : Fun K "cleared" "Chip.cleared" s_Chip_cleared a_Chip_cleared fd_Chip_cleared
  bd_Chip_cleared : Binds K fd_Chip_cleared ["self", "block"] []
  k_Chip_cleared : PySem.W.keepIn K (.ref a_Chip_cleared) = true
  a_Chip_failed : Addr
  fd_Chip_failed : FuncData
  F_Chip_failed : Fun K "failed" "Chip.failed" s_Chip_failed a_Chip_failed fd_Chip_failed
  bd_Chip_failed : Binds K fd_Chip_failed ["self", "block"] []
  k_Chip_failed : PySem.W.keepIn K (.ref a_Chip_failed) = true
  a_Chip_deeds : Addr
  fd_Chip_deeds : FuncData
  F_Chip_deeds : Fun K "deeds" "Chip.deeds" s_Chip_deeds a_Chip_deeds fd_Chip_deeds
  bd_Chip_deeds : Binds K fd_Chip_deeds ["self"] []
  k_Chip_deeds : PySem.W.keepIn K (.ref a_Chip_deeds) = true
  a_Terms_init : Addr
  fd_Terms_init : FuncData
  F_Terms_init : FunD K "__init__" "Terms.__init__" (defArgs s_Terms_init) (defBody s_Terms_init) (defScope s_Terms_init) dfl_Terms_init [] a_Terms_init fd_Terms_init
  ds1_Terms_init : List Value
  dv1_Terms_init : Vals (dfl_Terms_init.drop 1) ds1_Terms_init
  bd1_Terms_init : Binds K fd_Terms_init ["self", "blocks", "pages", "sheets", "share", "ill", "spread"] ds1_Terms_init
  k_Terms_init : PySem.W.keepIn K (.ref a_Terms_init) = true
  a_Terms_closed : Addr
  fd_Terms_closed : FuncData
  F_Terms_closed : Fun K "closed" "Terms.closed" s_Terms_closed a_Terms_closed fd_Terms_closed
  bd_Terms_closed : Binds K fd_Terms_closed ["self"] []
  k_Terms_closed : PySem.W.keepIn K (.ref a_Terms_closed) = true
  a__law_cell_at : Addr
  fd__law_cell_at : FuncData
  F__law_cell_at : Fun K "_law_cell_at" "_law_cell_at" s__law_cell_at a__law_cell_at fd__law_cell_at
  bd__law_cell_at : Binds K fd__law_cell_at ["_law_script", "_law_k"] []
  k__law_cell_at : PySem.W.keepIn K (.ref a__law_cell_at) = true
  g__law_cell_at : mg "_law_cell_at" = some (.ref a__law_cell_at)
  a__law_whole : Addr
  fd__law_whole : FuncData
  F__law_whole : Fun K "_law_whole" "_law_whole" s__law_whole a__law_whole fd__law_whole
  bd__law_whole : Binds K fd__law_whole ["_law_found"] []
  k__law_whole : PySem.W.keepIn K (.ref a__law_whole) = true
  g__law_whole : mg "_law_whole" = some (.ref a__law_whole)
  a__law_numbers : Addr
  fd__law_numbers : FuncData
  F__law_numbers : Fun K "_law_numbers" "_law_numbers" s__law_numbers a__law_numbers fd__law_numbers
  bd__law_numbers : Binds K fd__law_numbers ["_law_found", "_law_due"] []
  k__law_numbers : PySem.W.keepIn K (.ref a__law_numbers) = true
  g__law_numbers : mg "_law_numbers" = some (.ref a__law_numbers)
  a__law_same : Addr
  fd__law_same : FuncData
  F__law_same : Fun K "_law_same" "_law_same" s__law_same a__law_same fd__law_same
  bd__law_same : Binds K fd__law_same ["_law_found", "_law_due"] []
  k__law_same : PySem.W.keepIn K (.ref a__law_same) = true
  g__law_same : mg "_law_same" = some (.ref a__law_same)
  a__law_done : Addr
  fd__law_done : FuncData
  F__law_done : Fun K "_law_done" "_law_done" s__law_done a__law_done fd__law_done
  bd__law_done : Binds K fd__law_done ["_law_mine", "_law_block"] []
  k__law_done : PySem.W.keepIn K (.ref a__law_done) = true
  g__law_done : mg "_law_done" = some (.ref a__law_done)
  a__law_wiped : Addr
  fd__law_wiped : FuncData
  F__law_wiped : Fun K "_law_wiped" "_law_wiped" s__law_wiped a__law_wiped fd__law_wiped
  bd__law_wiped : Binds K fd__law_wiped ["_law_chip", "_law_mine", "_law_block"] []
  k__law_wiped : PySem.W.keepIn K (.ref a__law_wiped) = true
  g__law_wiped : mg "_law_wiped" = some (.ref a__law_wiped)
  a__law_good : Addr
  fd__law_good : FuncData
  F__law_good : Fun K "_law_good" "_law_good" s__law_good a__law_good fd__law_good
  bd__law_good : Binds K fd__law_good ["_law_mine"] []
  k__law_good : PySem.W.keepIn K (.ref a__law_good) = true
  g__law_good : mg "_law_good" = some (.ref a__law_good)
  a__law_free : Addr
  fd__law_free : FuncData
  F__law_free : Fun K "_law_free" "_law_free" s__law_free a__law_free fd__law_free
  bd__law_free : Binds K fd__law_free ["_law_mine"] []
  k__law_free : PySem.W.keepIn K (.ref a__law_free) = true
  g__law_free : mg "_law_free" = some (.ref a__law_free)
  a__law_part : Addr
  fd__law_part : FuncData
  F__law_part : Fun K "_law_part" "_law_part" s__law_part a__law_part fd__law_part
  bd__law_part : Binds K fd__law_part ["_law_mine"] []
  k__law_part : PySem.W.keepIn K (.ref a__law_part) = true
  g__law_part : mg "_law_part" = some (.ref a__law_part)
  a__law_spot : Addr
  fd__law_spot : FuncData
  F__law_spot : Fun K "_law_spot" "_law_spot" s__law_spot a__law_spot fd__law_spot
  bd__law_spot : Binds K fd__law_spot ["_law_mine"] []
  k__law_spot : PySem.W.keepIn K (.ref a__law_spot) = true
  g__law_spot : mg "_law_spot" = some (.ref a__law_spot)
  a__law_asks : Addr
  fd__law_asks : FuncData
  F__law_asks : Fun K "_law_asks" "_law_asks" s__law_asks a__law_asks fd__law_asks
  bd__law_asks : Binds K fd__law_asks ["_law_store", "_law_mine"] []
  k__law_asks : PySem.W.keepIn K (.ref a__law_asks) = true
  g__law_asks : mg "_law_asks" = some (.ref a__law_asks)
  a__law_set : Addr
  fd__law_set : FuncData
  F__law_set : Fun K "_law_set" "_law_set" s__law_set a__law_set fd__law_set
  bd__law_set : Binds K fd__law_set ["_law_store", "_law_name", "_law_number"] []
  k__law_set : PySem.W.keepIn K (.ref a__law_set) = true
  g__law_set : mg "_law_set" = some (.ref a__law_set)
  a__law_unready : Addr
  fd__law_unready : FuncData
  F__law_unready : Fun K "_law_unready" "_law_unready" s__law_unready a__law_unready fd__law_unready
  bd__law_unready : Binds K fd__law_unready ["_law_store"] []
  k__law_unready : PySem.W.keepIn K (.ref a__law_unready) = true
  g__law_unready : mg "_law_unready" = some (.ref a__law_unready)
  a__law_step : Addr
  fd__law_step : FuncData
  F__law_step : Fun K "_law_step" "_law_step" s__law_step a__law_step fd__law_step
  bd__law_step : Binds K fd__law_step ["_law_store", "_law_mine", "_law_cell"] []
  k__law_step : PySem.W.keepIn K (.ref a__law_step) = true
  g__law_step : mg "_law_step" = some (.ref a__law_step)
  a__law_lies : Addr
  fd__law_lies : FuncData
  F__law_lies : Fun K "_law_lies" "_law_lies" s__law_lies a__law_lies fd__law_lies
  bd__law_lies : Binds K fd__law_lies ["_law_chip", "_law_row"] []
  k__law_lies : PySem.W.keepIn K (.ref a__law_lies) = true
  g__law_lies : mg "_law_lies" = some (.ref a__law_lies)
  a_law : Addr
  fd_law : FuncData
  F_law : Fun K "law" "law" s_law a_law fd_law
  bd_law : Binds K fd_law ["_law_script"] []
  k_law : PySem.W.keepIn K (.ref a_law) = true
  C_Book : Addr
  g_Book : mg "Book" = some (.ref C_Book)
  cl_Book : Cls K C_Book
  na_Book_blocks : NoAttr K C_Book "blocks"
  na_Book_pages : NoAttr K C_Book "pages"
  na_Book_where : NoAttr K C_Book "where"
  na_Book_names : NoAttr K C_Book "names"
  na_Book_live : NoAttr K C_Book "live"
  na_Book_filled : NoAttr K C_Book "filled"
  na_Book_born : NoAttr K C_Book "born"
  na_Book_stamp : NoAttr K C_Book "stamp"
  mk_Book : Mk K C_Book a_Book_init
  m_Book_mark : Meth K C_Book "mark" a_Book_mark
  m_Book_note : Meth K C_Book "note" a_Book_note
  m_Book_forget : Meth K C_Book "forget" a_Book_forget
  m_Book_held : Meth K C_Book "held" a_Book_held
  m_Book_tell : Meth K C_Book "tell" a_Book_tell
  C_Plain : Addr
  g_Plain : mg "Plain" = some (.ref C_Plain)
  cl_Plain : Cls K C_Plain
  na_Plain_chip : NoAttr K C_Plain "chip"
  na_Plain_terms : NoAttr K C_Plain "terms"
  na_Plain_book : NoAttr K C_Plain "book"
  mk_Plain : Mk K C_Plain a_Plain_init
  m_Plain_good : Meth K C_Plain "good" a_Plain_good
  m_Plain_free : Meth K C_Plain "free" a_Plain_free
  m_Plain_part : Meth K C_Plain "part" a_Plain_part
  m_Plain_spot : Meth K C_Plain "spot" a_Plain_spot
  m_Plain_reserve : Meth K C_Plain "reserve" a_Plain_reserve
  m_Plain_ready : Meth K C_Plain "ready" a_Plain_ready
  m_Plain_make_ready : Meth K C_Plain "make_ready" a_Plain_make_ready
  m_Plain_set_down : Meth K C_Plain "set_down" a_Plain_set_down
  m_Plain_lay : Meth K C_Plain "lay" a_Plain_lay
  m_Plain_need_sheet : Meth K C_Plain "need_sheet" a_Plain_need_sheet
  m_Plain_write : Meth K C_Plain "write" a_Plain_write
  m_Plain_read : Meth K C_Plain "read" a_Plain_read
  m_Plain_held : Meth K C_Plain "held" a_Plain_held
  C_Chip : Addr
  g_Chip : mg "Chip" = some (.ref C_Chip)
  cl_Chip : Cls K C_Chip
  na_Chip_blocks : NoAttr K C_Chip "blocks"
  na_Chip_pages : NoAttr K C_Chip "pages"
  na_Chip_most : NoAttr K C_Chip "most"
  na_Chip_lasts : NoAttr K C_Chip "lasts"
  na_Chip_stuff : NoAttr K C_Chip "stuff"
  na_Chip_tried : NoAttr K C_Chip "tried"
  na_Chip_clearings : NoAttr K C_Chip "clearings"
  na_Chip_broken : NoAttr K C_Chip "broken"
  na_Chip_left : NoAttr K C_Chip "left"
  na_Chip_log : NoAttr K C_Chip "log"
  mk_Chip : Mk K C_Chip a_Chip_init
  m_Chip_need_page : Meth K C_Chip "need_page" a_Chip_need_page
  m_Chip_need_block : Meth K C_Chip "need_block" a_Chip_need_block
  m_Chip_need_power : Meth K C_Chip "need_power" a_Chip_need_power
  m_Chip_need_good : Meth K C_Chip "need_good" a_Chip_need_good
  m_Chip_goes_well : Meth K C_Chip "goes_well" a_Chip_goes_well
  m_Chip_put : Meth K C_Chip "put" a_Chip_put
  m_Chip_wipe : Meth K C_Chip "wipe" a_Chip_wipe
  m_Chip_read : Meth K C_Chip "read" a_Chip_read
  m_Chip_is_dark : Meth K C_Chip "is_dark" a_Chip_is_dark
  m_Chip_cleared : Meth K C_Chip "cleared" a_Chip_cleared
  m_Chip_failed : Meth K C_Chip "failed" a_Chip_failed
  m_Chip_deeds : Meth K C_Chip "deeds" a_Chip_deeds
  C_Terms : Addr
  g_Terms : mg "Terms" = some (.ref C_Terms)
  cl_Terms : Cls K C_Terms
  na_Terms_blocks : NoAttr K C_Terms "blocks"
  na_Terms_pages : NoAttr K C_Terms "pages"
  na_Terms_sheets : NoAttr K C_Terms "sheets"
  na_Terms_share : NoAttr K C_Terms "share"
  na_Terms_ill : NoAttr K C_Terms "ill"
  na_Terms_spread : NoAttr K C_Terms "spread"
  mk_Terms : Mk K C_Terms a_Terms_init
  m_Terms_closed : Meth K C_Terms "closed" a_Terms_closed
  C_WornError : Addr
  g_WornError : mg "WornError" = some (.ref C_WornError)
  xc_WornError : XC K C_WornError
  C_NoChip : Addr
  g_NoChip : mg "NoChip" = some (.ref C_NoChip)
  xc_NoChip : XC K C_NoChip
  C_NoPlace : Addr
  g_NoPlace : mg "NoPlace" = some (.ref C_NoPlace)
  xc_NoPlace : XC K C_NoPlace
  C_PowerGone : Addr
  g_PowerGone : mg "PowerGone" = some (.ref C_PowerGone)
  xc_PowerGone : XC K C_PowerGone
  C_BlockFailed : Addr
  g_BlockFailed : mg "BlockFailed" = some (.ref C_BlockFailed)
  xi_BlockFailed : XI K C_BlockFailed a_BlockFailed_init
  nx_BlockFailed_block : PySem.W.findIn K (.ref C_BlockFailed) "block" = some none
  C_NotClear : Addr
  g_NotClear : mg "NotClear" = some (.ref C_NotClear)
  xi_NotClear : XI K C_NotClear a_NotClear_init
  nx_NotClear_page : PySem.W.findIn K (.ref C_NotClear) "page" = some none
  C_NoTerms : Addr
  g_NoTerms : mg "NoTerms" = some (.ref C_NoTerms)
  xc_NoTerms : XC K C_NoTerms
  C_NoSheet : Addr
  g_NoSheet : mg "NoSheet" = some (.ref C_NoSheet)
  xc_NoSheet : XC K C_NoSheet
  C_NoValue : Addr
  g_NoValue : mg "NoValue" = some (.ref C_NoValue)
  xc_NoValue : XC K C_NoValue
  C_Full : Addr
  g_Full : mg "Full" = some (.ref C_Full)
  xc_Full : XC K C_Full
  C_NoRoom : Addr
  g_NoRoom : mg "NoRoom" = some (.ref C_NoRoom)
  xc_NoRoom : XC K C_NoRoom
  wi_WornError : WInit K C_WornError
  em_NoTerms_BlockFailed : PySem.W.exmOne K (.ref C_NoTerms) (.ref C_BlockFailed) = some false
  em_NoTerms_NoRoom : PySem.W.exmOne K (.ref C_NoTerms) (.ref C_NoRoom) = some false
  em_NoRoom_BlockFailed : PySem.W.exmOne K (.ref C_NoRoom) (.ref C_BlockFailed) = some false
  em_NoRoom_NoRoom : PySem.W.exmOne K (.ref C_NoRoom) (.ref C_NoRoom) = some true
  em_NoSheet_BlockFailed : PySem.W.exmOne K (.ref C_NoSheet) (.ref C_BlockFailed) = some false
  em_NoSheet_NoRoom : PySem.W.exmOne K (.ref C_NoSheet) (.ref C_NoRoom) = some false
  em_NoValue_BlockFailed : PySem.W.exmOne K (.ref C_NoValue) (.ref C_BlockFailed) = some false
  em_NoValue_NoRoom : PySem.W.exmOne K (.ref C_NoValue) (.ref C_NoRoom) = some false
  em_Full_BlockFailed : PySem.W.exmOne K (.ref C_Full) (.ref C_BlockFailed) = some false
  em_Full_NoRoom : PySem.W.exmOne K (.ref C_Full) (.ref C_NoRoom) = some false
  em_NoChip_BlockFailed : PySem.W.exmOne K (.ref C_NoChip) (.ref C_BlockFailed) = some false
  em_NoChip_NoRoom : PySem.W.exmOne K (.ref C_NoChip) (.ref C_NoRoom) = some false
  em_NoPlace_BlockFailed : PySem.W.exmOne K (.ref C_NoPlace) (.ref C_BlockFailed) = some false
  em_NoPlace_NoRoom : PySem.W.exmOne K (.ref C_NoPlace) (.ref C_NoRoom) = some false
  em_PowerGone_BlockFailed : PySem.W.exmOne K (.ref C_PowerGone) (.ref C_BlockFailed) = some false
  em_PowerGone_NoRoom : PySem.W.exmOne K (.ref C_PowerGone) (.ref C_NoRoom) = some false
  em_BlockFailed_BlockFailed : PySem.W.exmOne K (.ref C_BlockFailed) (.ref C_BlockFailed) = some true
  em_BlockFailed_NoRoom : PySem.W.exmOne K (.ref C_BlockFailed) (.ref C_NoRoom) = some false
  em_NotClear_BlockFailed : PySem.W.exmOne K (.ref C_NotClear) (.ref C_BlockFailed) = some false
  em_NotClear_NoRoom : PySem.W.exmOne K (.ref C_NotClear) (.ref C_NoRoom) = some false
  b_len : mg "len" = none
  b_isinstance : mg "isinstance" = none
  b_sorted : mg "sorted" = none
  b_int : mg "int" = none
  b_str : mg "str" = none
  b_list : mg "list" = none
  b_tuple : mg "tuple" = none
  b_bool : mg "bool" = none
  b_range : mg "range" = none
  b_ValueError : mg "ValueError" = none
  u_ROLL : Value
  g_ROLL : mg "ROLL" = some u_ROLL
  r_ROLL : RelV (V.int (64)) u_ROLL
  u_MANY : Value
  g_MANY : mg "MANY" = some u_MANY
  r_MANY : RelV (V.int (16)) u_MANY
  u_MOST : Value
  g_MOST : mg "MOST" = some u_MOST
  r_MOST : RelV (V.int (1000000)) u_MOST
local macro_rules | `(tactic| walk_at "cls") => `(tactic| first | assumption | exact (show Txt _ _ by assumption).cl_Book | exact (show Txt _ _ by assumption).cl_Plain | exact (show Txt _ _ by assumption).cl_Chip | exact (show Txt _ _ by assumption).cl_Terms)
local macro_rules | `(tactic| walk_at "na") => `(tactic| first | assumption | exact (show Txt _ _ by assumption).na_Book_blocks | exact (show Txt _ _ by assumption).na_Book_pages | exact (show Txt _ _ by assumption).na_Book_where | exact (show Txt _ _ by assumption).na_Book_names | exact (show Txt _ _ by assumption).na_Book_live | exact (show Txt _ _ by assumption).na_Book_filled | exact (show Txt _ _ by assumption).na_Book_born | exact (show Txt _ _ by assumption).na_Book_stamp | exact (show Txt _ _ by assumption).na_Plain_chip | exact (show Txt _ _ by assumption).na_Plain_terms | exact (show Txt _ _ by assumption).na_Plain_book | exact (show Txt _ _ by assumption).na_Chip_blocks | exact (show Txt _ _ by assumption).na_Chip_pages | exact (show Txt _ _ by assumption).na_Chip_most | exact (show Txt _ _ by assumption).na_Chip_lasts | exact (show Txt _ _ by assumption).na_Chip_stuff | exact (show Txt _ _ by assumption).na_Chip_tried | exact (show Txt _ _ by assumption).na_Chip_clearings | exact (show Txt _ _ by assumption).na_Chip_broken | exact (show Txt _ _ by assumption).na_Chip_left | exact (show Txt _ _ by assumption).na_Chip_log | exact (show Txt _ _ by assumption).na_Terms_blocks | exact (show Txt _ _ by assumption).na_Terms_pages | exact (show Txt _ _ by assumption).na_Terms_sheets | exact (show Txt _ _ by assumption).na_Terms_share | exact (show Txt _ _ by assumption).na_Terms_ill | exact (show Txt _ _ by assumption).na_Terms_spread)

section
variable {P : Program} {w : World} {K : PySem.W.Frag} {mg : Str → Option Value} {base : Heap}
abbrev FO (P : Program) (w : World) (K : PySem.W.Frag) (mg : Str → Option Value) (base : Heap) := FnOk P w K mg base (L2.CX P w)
/-! ### the law's reader -/
def cl (ns : List Int) (k : Int) : Int := ns.getD k.toNat 0
def spCell (K : PySem.W.Frag) : Sp := fun vs H Q _ => ∃ (a : Addr) (ns : List Int) (k : Int), vs = [.ref a, .int k] ∧ SqL K H a (ns.map V.int) ∧ 0 ≤ k ∧ Q (.int (cl ns k)) H
theorem ok_cell_at (T : Txt K mg) : FO P w K mg base 1 T.a__law_cell_at T.fd__law_cell_at ["_law_script", "_law_k"] (spCell K) := by
  have sc := sc__law_cell_at
  refine T.F__law_cell_at.okX sc (fun vs H Q E h => ?_) (fun cdv A outer s H vs Q E hr h => ?_)
  · obtain ⟨a, ns, k, rfl, _⟩ := h
    rfl
  · obtain ⟨a, ns, k, rfl, hS, h0, q⟩ := h
    refine ⟨_, (pss_cons (ps_if (pt_cmpR op_uLt (pv 1) (pe_callB (cr_ulen) (by rfl) T.b_len bt_len (pa_cons (pv 0) pa_nil)) (nomark _)) (pss_one (ps_ret (pe_ix ix_seq (pv 0) (pv 1) (fun _ _ => rfl)))) pss_nil)
      (pss_one (ps_ret pe_int))), ?_⟩
    walk_at "begin"
    walk_at "if"
    refine x_iteD (fun h => ?_) (fun h => ?_)
    · walk_at "go"
      exact q
    · walk_at "go"
      have e : cl ns k = 0 := by
        unfold cl
        rw [List.getD_eq_getElem?_getD, List.getElem?_eq_none (by omega)]
        rfl
      rw [e] at q
      exact q

theorem x_cell {H : Hp} {Q : VK} {E : XK} {a : Addr} {ns : List Int} {k : Int} (h : SqL K H a (ns.map V.int)) (q : Q (.int (cl ns k)) H) (h0 : 0 ≤ k) : spCell K [.ref a, .int k] H Q E := ⟨a, ns, k, rfl, h, h0, q⟩
local macro_rules | `(tactic| walk_at "u") => `(tactic| ((with_reducible refine' x_cell ?hq ?_ ?h0); (case hq => walk_at "sq"); (try (case h0 => walk_at "side"))))

/-- a value that is no whole number, of a kind that is met here -/
def NotI (K : PySem.W.Frag) (H : Hp) (v : V) : Prop := v = .non ∨ (∃ b, v = .bl b) ∨ (∃ s, v = .str s) ∨ ∃ p, v = .ref p ∧ (TyX K H v (.type "list") ∨ TyX K H v (.type "tuple"))

def spLWhole (K : PySem.W.Frag) : Sp := fun vs H Q _ => ∃ v, vs = [v] ∧ ((∃ n, v = .int n ∧ Q (.bl true) H) ∨ (NotI K H v ∧ Q (.bl false) H))
theorem x_lwhole {H : Hp} {Q : VK} {E : XK} {n : Int} (q : Q (.bl true) H) : spLWhole K [.int n] H Q E := ⟨_, rfl, .inl ⟨n, rfl, q⟩⟩
theorem x_lwholeN {H : Hp} {Q : VK} {E : XK} {v : V} (h : NotI K H v) (q : Q (.bl false) H) : spLWhole K [v] H Q E := ⟨_, rfl, .inr ⟨h, q⟩⟩
local macro_rules | `(tactic| walk_at "u") => `(tactic| first | (with_reducible refine x_lwhole ?_) | (with_reducible refine x_lwholeN (by assumption) ?_))
theorem ok_whole (T : Txt K mg) : FO P w K mg base 1 T.a__law_whole T.fd__law_whole ["_law_found"] (spLWhole K) := by
  have sc := sc__law_whole
  refine T.F__law_whole.okX sc (fun vs H Q E h => ?_) (fun cdv A outer s H vs Q E hr h => ?_)
  · obtain ⟨v, rfl, _⟩ := h
    rfl
  · obtain ⟨v, rfl, h⟩ := h
    refine ⟨_, (pss_one (ps_ret (pe_andT (pe_callB (cr_uisinstance) (by rfl) T.b_isinstance bt_isinstance (pa_cons (pv 0) (pa_cons (pe_bltn (v := .ty "int") (by rfl) T.b_int bt_int rfl) pa_nil))) (pe_one (pe_notT (pe_callB (cr_uisinstance) (by rfl) T.b_isinstance bt_isinstance (pa_cons (pv 0) (pa_cons (pe_bltn (v := .ty "bool") (by rfl) T.b_bool bt_bool rfl) pa_nil)))))))), ?_⟩
    walk_at "begin"
    walk_at "go"
    rcases h with ⟨n, rfl, q⟩ | ⟨h, q⟩
    · walk_at "go"
      exact q
    · rcases h with rfl | ⟨b, rfl⟩ | ⟨z, rfl⟩ | ⟨p, rfl, h⟩
      · walk_at "go"
        exact q
      · walk_at "go"
        exact q
      · walk_at "go"
        exact q
      · rcases h with h | h
        · refine x_isiR h (b := false) (by decide +kernel) ?_
          walk_at "go"
          exact q
        · refine x_isiR h (b := false) (by decide +kernel) ?_
          walk_at "go"
          exact q

/-! ### whole numbers -/
def spWhole (K : PySem.W.Frag) : Sp := fun vs H Q _ => ∃ v, vs = [v] ∧ ((∃ n, v = .int n ∧ Q (.bl true) H) ∨ (NotI K H v ∧ Q (.bl false) H))
theorem x_whole {H : Hp} {Q : VK} {E : XK} {n : Int} (q : Q (.bl true) H) : spWhole K [.int n] H Q E := ⟨_, rfl, .inl ⟨n, rfl, q⟩⟩
theorem x_wholeN {H : Hp} {Q : VK} {E : XK} {v : V} (h : NotI K H v) (q : Q (.bl false) H) : spWhole K [v] H Q E := ⟨_, rfl, .inr ⟨h, q⟩⟩
local macro_rules | `(tactic| walk_at "u") => `(tactic| first | (with_reducible refine x_whole ?_) | (with_reducible refine x_wholeN (by assumption) ?_))
theorem ok_is_whole (T : Txt K mg) : FO P w K mg base 1 T.a_is_whole T.fd_is_whole ["thing"] (spWhole K) := by
  have sc := sc_is_whole
  refine T.F_is_whole.okX sc (fun vs H Q E h => ?_) (fun cdv A outer s H vs Q E hr h => ?_)
  · obtain ⟨v, rfl, _⟩ := h
    rfl
  · obtain ⟨v, rfl, h⟩ := h
    refine ⟨_, (pss_one (ps_ret (pe_andT (pe_callB (cr_uisinstance) (by rfl) T.b_isinstance bt_isinstance (pa_cons (pv 0) (pa_cons (pe_bltn (v := .ty "int") (by rfl) T.b_int bt_int rfl) pa_nil))) (pe_one (pe_notT (pe_callB (cr_uisinstance) (by rfl) T.b_isinstance bt_isinstance (pa_cons (pv 0) (pa_cons (pe_bltn (v := .ty "bool") (by rfl) T.b_bool bt_bool rfl) pa_nil)))))))), ?_⟩
    walk_at "begin"
    walk_at "go"
    rcases h with ⟨n, rfl, q⟩ | ⟨h, q⟩
    · walk_at "go"
      exact q
    · rcases h with rfl | ⟨b, rfl⟩ | ⟨z, rfl⟩ | ⟨p, rfl, h⟩
      · walk_at "go"
        exact q
      · walk_at "go"
        exact q
      · walk_at "go"
        exact q
      · rcases h with h | h
        · refine x_isiR h (b := false) (by decide +kernel) ?_
          walk_at "go"
          exact q
        · refine x_isiR h (b := false) (by decide +kernel) ?_
          walk_at "go"
          exact q
def spWithin (K : PySem.W.Frag) : Sp := fun vs H Q _ => ∃ v lo hi, vs = [v, .int lo, .int hi] ∧ ((∃ n, v = .int n ∧ Q (.bl (decide (lo ≤ n ∧ n ≤ hi))) H) ∨ (NotI K H v ∧ Q (.bl false) H))
theorem x_within {H : Hp} {Q : VK} {E : XK} {n lo hi : Int} (q : Q (.bl (decide (lo ≤ n ∧ n ≤ hi))) H) : spWithin K [.int n, .int lo, .int hi] H Q E := ⟨_, _, _, rfl, .inl ⟨n, rfl, q⟩⟩
theorem x_withinN {H : Hp} {Q : VK} {E : XK} {v : V} {lo hi : Int} (h : NotI K H v) (q : Q (.bl false) H) : spWithin K [v, .int lo, .int hi] H Q E := ⟨_, _, _, rfl, .inr ⟨h, q⟩⟩
local macro_rules | `(tactic| walk_at "u") => `(tactic| first | (with_reducible refine x_within ?_) | (with_reducible refine x_withinN (by assumption) ?_))
theorem ok_is_within (T : Txt K mg) : FO P w K mg base 2 T.a_is_within T.fd_is_within ["thing", "low", "high"] (spWithin K) := by
  have sc := sc_is_within
  refine T.F_is_within.okX sc (fun vs H Q E h => ?_) (fun cdv A outer s H vs Q E hr h => ?_)
  · obtain ⟨v, lo, hi, rfl, _⟩ := h
    rfl
  · obtain ⟨v, lo, hi, rfl, h⟩ := h
    refine ⟨_, (pss_one (ps_ret (pe_andT (pe_callS (ok_is_whole T) (hr.mono (by decide)) (by rfl) T.g_is_whole T.k_is_whole T.bd_is_whole (passAt (takes_of rfl rfl rfl rfl)) (pa_cons (pv 0) pa_nil)) (pe_one (pe_chain op_le op_le (pv 1) (pv 0) (pv 2)))))), ?_⟩
    walk_at "begin"
    walk_at "go"
    rcases h with ⟨n, rfl, q⟩ | ⟨h, q⟩
    · walk_at "go"
      refine x_iteD (fun h => ?_) (fun h => ?_)
      · walk_at "go"
        have e : decide (n ≤ hi) = decide (lo ≤ n ∧ n ≤ hi) := by simp [h]
        rw [e]
        exact q
      · walk_at "go"
        have e : false = decide (lo ≤ n ∧ n ≤ hi) := by simp [h]
        rw [← e] at q
        exact q
    · walk_at "go"
      exact q


/-! ### values that may be numbers -/
def NotS (v : V) : Prop := v = .non ∨ (∃ b, v = .bl b) ∨ ∃ s, v = .str s
theorem NotS.to {H : Hp} {v : V} (h : NotS v) : NotI K H v := by
  rcases h with h | h | h
  · exact .inl h
  · exact .inr (.inl h)
  · exact .inr (.inr (.inl h))
inductive Num : V → Option Int → Prop
  | int (n : Int) : Num (.int n) (some n)
  | no (v : V) : NotS v → Num v none
def inB (o : Option Int) (lo hi : Int) : Bool := match o with
  | some n => decide (lo ≤ n ∧ n ≤ hi)
  | none => false
theorem x_wNum {H : Hp} {Q : VK} {E : XK} {v : V} {o : Option Int} {lo hi : Int} (h : Num v o) (q : Q (.bl (inB o lo hi)) H) : spWithin K [v, .int lo, .int hi] H Q E := by
  cases h with
  | int n => exact ⟨_, _, _, rfl, .inl ⟨n, rfl, q⟩⟩
  | no v h => exact ⟨_, _, _, rfl, .inr ⟨h.to, q⟩⟩
theorem Num.of_inB {v : V} {o : Option Int} {lo hi : Int} (h : Num v o) (e : inB o lo hi = true) : ∃ n, v = .int n ∧ o = some n ∧ lo ≤ n ∧ n ≤ hi := by
  cases h with
  | int n => exact ⟨n, rfl, rfl, of_decide_eq_true e⟩
  | no v h => cases e

/-! ### the chip -/
structure Cs where
  b : Int
  p : Int
  m : Int
  lasts : List V
  stuff : List V
  tried : List Int
  clr : List Int
  broken : List Bool
  left : Option Int
  log : List (Str × Int × Bool)
structure CF where
  dx : Addr
  la : Addr
  st : Addr
  tr : Addr
  cl : Addr
  br : Addr
  lg : Addr
def lv : Option Int → V
  | none => .non
  | some n => .int n
def chipF (F : CF) (c : Cs) : List (Str × V) := [("blocks", .int c.b), ("pages", .int c.p), ("most", .int c.m), ("lasts", .ref F.la), ("stuff", .ref F.st), ("tried", .ref F.tr), ("clearings", .ref F.cl), ("broken", .ref F.br), ("left", lv c.left), ("log", .ref F.lg)]
def LogAt (H : Hp) (v : V) (e : Str × Int × Bool) : Prop := ∃ a, v = .ref a ∧ H a = some (.tup [.str e.1, .int e.2.1, .bl e.2.2])
def LogAll (H : Hp) (vs : List V) (es : List (Str × Int × Bool)) : Prop := vs.length = es.length ∧ ∀ (i : Nat) v e, vs[i]? = some v → es[i]? = some e → LogAt H v e
structure Sizes (c : Cs) : Prop where
  b : 2 ≤ c.b ∧ c.b ≤ 16
  p : 1 ≤ c.p ∧ c.p ≤ 16
  m : 0 ≤ c.m ∧ c.m ≤ 1000000
  lasts : (c.lasts.length : Int) = c.b
  stuff : (c.stuff.length : Int) = c.b * c.p
  tried : (c.tried.length : Int) = c.b
  clr : (c.clr.length : Int) = c.b
  broken : (c.broken.length : Int) = c.b
  lsc : ∀ x ∈ c.lasts, x = .non ∨ ∃ n : Int, x = .int n
def CF.all (F : CF) (r : Addr) : List Addr := [r, F.la, F.st, F.tr, F.cl, F.br, F.lg]
structure ChipAt (C : Addr) (H : Hp) (r : Addr) (F : CF) (c : Cs) : Prop where
  obj : H r = some (.ins C F.dx (chipF F c))
  la : H F.la = some (.lst c.lasts)
  st : H F.st = some (.lst c.stuff)
  tr : H F.tr = some (.lst (c.tried.map V.int))
  cl : H F.cl = some (.lst (c.clr.map V.int))
  br : H F.br = some (.lst (c.broken.map V.bl))
  lg : ∃ vs, H F.lg = some (.lst vs) ∧ LogAll H vs c.log
  nd : (CF.all F r).Nodup
  sz : Sizes c
theorem LogAll.mono {H H' : Hp} {vs : List V} {es : List (Str × Int × Bool)} (s : TupS H H') (h : LogAll H vs es) : LogAll H' vs es := ⟨h.1, fun i v e h1 h2 => by
  obtain ⟨a, q, h⟩ := h.2 i v e h1 h2
  exact ⟨a, q, s _ _ h⟩⟩
theorem ChipAt.mono {C : Addr} {H H' : Hp} {r : Addr} {F : CF} {c : Cs} (s : Same H H') (h : ChipAt C H r F c) : ChipAt C H' r F c := by
  obtain ⟨vs, e, l⟩ := h.lg
  exact ⟨s _ _ h.obj, s _ _ h.la, s _ _ h.st, s _ _ h.tr, s _ _ h.cl, s _ _ h.br, ⟨vs, s _ _ e, l.mono (TupS.of s)⟩, h.nd, h.sz⟩
/-- the addresses of a chip are unlike -/
theorem ChipAt.ne {C : Addr} {H : Hp} {r : Addr} {F : CF} {c : Cs} (h : ChipAt C H r F c) : (r ≠ F.la ∧ r ≠ F.st ∧ r ≠ F.tr ∧ r ≠ F.cl ∧ r ≠ F.br ∧ r ≠ F.lg) ∧ (F.la ≠ F.st ∧ F.la ≠ F.tr ∧ F.la ≠ F.cl ∧ F.la ≠ F.br ∧ F.la ≠ F.lg) ∧ (F.st ≠ F.tr ∧ F.st ≠ F.cl ∧ F.st ≠ F.br ∧ F.st ≠ F.lg) ∧ (F.tr ≠ F.cl ∧ F.tr ≠ F.br ∧ F.tr ≠ F.lg) ∧ (F.cl ≠ F.br ∧ F.cl ≠ F.lg) ∧ F.br ≠ F.lg := by
  have d := h.nd
  unfold CF.all at d
  simp only [List.nodup_cons, List.mem_cons, List.not_mem_nil, or_false, not_or, not_false_eq_true, List.nodup_nil, and_true] at d
  exact ⟨d.1, d.2.1, d.2.2.1, d.2.2.2.1, d.2.2.2.2.1, d.2.2.2.2.2⟩
/-- tuples stay where a chip changes -/
theorem ChipAt.tups {C : Addr} {H H' : Hp} {r : Addr} {F : CF} {c : Cs} (h : ChipAt C H r F c) (s : Off (F.all r) H H') : TupS H H' := fun a xs e => by
  refine s a _ (fun m => ?_) e
  obtain ⟨vs, e7, _⟩ := h.lg
  unfold CF.all at m
  simp only [List.mem_cons, List.not_mem_nil, or_false] at m
  rcases m with rfl | rfl | rfl | rfl | rfl | rfl | rfl
  · rw [h.obj] at e; cases e
  · rw [h.la] at e; cases e
  · rw [h.st] at e; cases e
  · rw [h.tr] at e; cases e
  · rw [h.cl] at e; cases e
  · rw [h.br] at e; cases e
  · rw [e7] at e; cases e
theorem ChipAt.off {C : Addr} {H H' : Hp} {r : Addr} {F : CF} {c : Cs} {S : List Addr} (h : ChipAt C H r F c) (s : Off S H H') (n : ∀ a, a ∈ F.all r → a ∉ S) (ht : TupS H H') : ChipAt C H' r F c := by
  obtain ⟨vs, e, l⟩ := h.lg
  unfold CF.all at n
  exact ⟨s.at h.obj (n _ (by simp)), s.at h.la (n _ (by simp)), s.at h.st (n _ (by simp)), s.at h.tr (n _ (by simp)), s.at h.cl (n _ (by simp)), s.at h.br (n _ (by simp)), ⟨vs, s.at e (n _ (by simp)), l.mono ht⟩, h.nd, h.sz⟩
/-- a list that is another one's changes: tuples stay -/
theorem _root_.Kit.Off.tupsL {a : Addr} {H H' : Hp} {xs : List V} (s : Off [a] H H') (h : H a = some (.lst xs)) : TupS H H' := fun b ys e => s b _ (fun m => by rw [List.mem_singleton.mp m, h] at e; cases e) e
def Cs.dark (c : Cs) : Bool := decide (c.left = some 0)
/-- how an asking ends -/
inductive Res
  | ok
  | place
  | dark
  | failed (b : Int)
  | clear (n : Int)
  | value
def spDark (C : Addr) : Sp := fun vs H Q _ => ∃ r F c, vs = [.ref r] ∧ ChipAt C H r F c ∧ Q (.bl c.dark) H
theorem lv_eq0 {o : Option Int} : decide (lv o = .int 0) = decide (o = some 0) := by
  cases o with
  | none => rfl
  | some n => rw [decide_eq_decide]; simp [lv]
theorem lv_scal {o : Option Int} {n : Int} : scal (lv o) (.int n) = true := by cases o <;> rfl
theorem ok_Chip_is_dark (T : Txt K mg) : FO P w K mg base 1 T.a_Chip_is_dark T.fd_Chip_is_dark ["self"] (spDark T.C_Chip) := by
  have sc := sc_Chip_is_dark
  refine T.F_Chip_is_dark.okX sc (fun vs H Q E h => ?_) (fun cdv A outer s H vs Q E hr h => ?_)
  · obtain ⟨_, _, _, rfl, _⟩ := h
    rfl
  · obtain ⟨r, F, c, rfl, hC, q⟩ := h
    refine ⟨_, (pss_one (ps_ret (pe_cmpR (op_uEq hr.units) (pe_fld (pv 0) rfl) pe_int (nomark _)))), ?_⟩
    have o := hC.obj
    unfold chipF at o
    walk_at "begin"
    walk_at "go"
    refine x_eqSc lv_scal ?_
    rw [lv_eq0]
    exact q
theorem MO_dark (T : Txt K mg) : MO P w K mg base (L2.CX P w) 1 T.C_Chip "is_dark" (spDark T.C_Chip) := ⟨⟨_, _, _, T.cl_Chip, T.m_Chip_is_dark, ok_Chip_is_dark T, T.bd_Chip_is_dark⟩⟩
theorem x_mDark {T : Txt K mg} {H : Hp} {Q : VK} {E : XK} {σ : L2.St} {r : Addr} {F : CF} {c : Cs} (hC : ChipAt T.C_Chip H r F c) (q : Q (.bl c.dark) H) : mtK P w K mg base (L2.CX P w) 1 "is_dark" E σ tNil Q (.ref r) H :=
  x_mtK hC.obj (MO_dark T) rfl ⟨r, F, c, rfl, hC, q⟩
def spPower (T : Txt K mg) : Sp := fun vs H Q E => ∃ r F c, vs = [.ref r] ∧ ChipAt T.C_Chip H r F c ∧ (c.dark = false → Q .non H) ∧ (c.dark = true → E (.ref T.C_PowerGone) none H)
theorem ok_Chip_need_power (T : Txt K mg) : FO P w K mg base 2 T.a_Chip_need_power T.fd_Chip_need_power ["self"] (spPower T) := by
  have sc := sc_Chip_need_power
  refine T.F_Chip_need_power.okX sc (fun vs H Q E h => ?_) (fun cdv A outer s H vs Q E hr h => ?_)
  · obtain ⟨_, _, _, rfl, _⟩ := h
    rfl
  · obtain ⟨r, F, c, rfl, hC, q1, q2⟩ := h
    refine ⟨_, (pss_one (ps_if (pt_truth (pe_methD0 (k := 1) (pv 0) (hr.mono (by decide)) (passAt (takes_of rfl rfl rfl rfl))) (by intro _; rfl)) (pss_one (ps_raiseK rfl (takes_of rfl rfl rfl rfl) (pmk_ownK T.xc_PowerGone T.g_PowerGone rfl))) pss_nil)), ?_⟩
    walk_at "begin"
    walk_at "go"
    refine x_mDark hC ?_
    walk_at "go"
    refine x_iteB (fun h => ?_) (fun h => ?_)
    · walk_at "go"
      exact q2 h
    · walk_at "go"
      exact q1 h
theorem x_mPower {T : Txt K mg} {H : Hp} {Q : VK} {E : XK} {σ : L2.St} {r : Addr} {F : CF} {c : Cs} (hC : ChipAt T.C_Chip H r F c) (q1 : c.dark = false → Q .non H) (q2 : c.dark = true → E (.ref T.C_PowerGone) none H) : mtK P w K mg base (L2.CX P w) 2 "need_power" E σ tNil Q (.ref r) H :=
  x_mtK hC.obj ⟨⟨_, _, _, T.cl_Chip, T.m_Chip_need_power, ok_Chip_need_power T, T.bd_Chip_need_power⟩⟩ rfl ⟨r, F, c, rfl, hC, q1, q2⟩
def spPage (T : Txt K mg) : Sp := fun vs H Q E => ∃ r F c v o, vs = [.ref r, v] ∧ ChipAt T.C_Chip H r F c ∧ Num v o ∧ (inB o 0 (c.b * c.p - 1) = true → Q .non H) ∧ (inB o 0 (c.b * c.p - 1) = false → E (.ref T.C_NoPlace) none H)
theorem ok_Chip_need_page (T : Txt K mg) : FO P w K mg base 3 T.a_Chip_need_page T.fd_Chip_need_page ["self", "page"] (spPage T) := by
  have sc := sc_Chip_need_page
  refine T.F_Chip_need_page.okX sc (fun vs H Q E h => ?_) (fun cdv A outer s H vs Q E hr h => ?_)
  · obtain ⟨_, _, _, _, _, rfl, _⟩ := h
    rfl
  · obtain ⟨r, F, c, v, o, rfl, hC, hn, q1, q2⟩ := h
    refine ⟨_, (pss_one (ps_if (pt_not (pt_truth (pe_callS (ok_is_within T) (hr.mono (by decide)) (by rfl) T.g_is_within T.k_is_within T.bd_is_within (passAt (takes_of rfl rfl rfl rfl)) (pa_cons (pv 1) (pa_cons pe_int (pa_cons (pe_op op_sub (pe_callB (cr_ulen) (by rfl) T.b_len bt_len (pa_cons (pe_fld (pv 0) rfl) pa_nil)) pe_int) pa_nil)))) (by intro _; rfl))) (pss_one (ps_raiseK rfl (takes_of rfl rfl rfl rfl) (pmk_ownK T.xc_NoPlace T.g_NoPlace rfl))) pss_nil)), ?_⟩
    have ho := hC.obj
    have hst := hC.st
    have hsz := hC.sz.stuff
    unfold chipF at ho
    walk_at "begin"
    walk_at "go"
    rw [hsz]
    refine x_wNum hn ?_
    walk_at "go"
    refine x_iteB (fun h => ?_) (fun h => ?_)
    · walk_at "go"
      exact q1 h
    · walk_at "go"
      exact q2 h

theorem x_mPage {T : Txt K mg} {H : Hp} {Q : VK} {E : XK} {σ : L2.St} {r : Addr} {F : CF} {c : Cs} {t : TA} (hC : ChipAt T.C_Chip H r F c) (h : t σ H fun vs H2 => spPage T (.ref r :: vs) H2 Q E) : mtK P w K mg base (L2.CX P w) 3 "need_page" E σ t Q (.ref r) H :=
  x_mtK hC.obj ⟨⟨_, _, _, T.cl_Chip, T.m_Chip_need_page, ok_Chip_need_page T, T.bd_Chip_need_page⟩⟩ rfl h
theorem x_page {T : Txt K mg} {H : Hp} {Q : VK} {E : XK} {r : Addr} {F : CF} {c : Cs} {v : V} {o : Option Int} (hC : ChipAt T.C_Chip H r F c) (hn : Num v o) (q1 : inB o 0 (c.b * c.p - 1) = true → Q .non H) (q2 : inB o 0 (c.b * c.p - 1) = false → E (.ref T.C_NoPlace) none H) : spPage T [.ref r, v] H Q E := ⟨r, F, c, v, o, rfl, hC, hn, q1, q2⟩
def spBlock (T : Txt K mg) : Sp := fun vs H Q E => ∃ r F c v o, vs = [.ref r, v] ∧ ChipAt T.C_Chip H r F c ∧ Num v o ∧ (inB o 0 (c.b - 1) = true → Q .non H) ∧ (inB o 0 (c.b - 1) = false → E (.ref T.C_NoPlace) none H)
theorem ok_Chip_need_block (T : Txt K mg) : FO P w K mg base 3 T.a_Chip_need_block T.fd_Chip_need_block ["self", "block"] (spBlock T) := by
  have sc := sc_Chip_need_block
  refine T.F_Chip_need_block.okX sc (fun vs H Q E h => ?_) (fun cdv A outer s H vs Q E hr h => ?_)
  · obtain ⟨_, _, _, _, _, rfl, _⟩ := h
    rfl
  · obtain ⟨r, F, c, v, o, rfl, hC, hn, q1, q2⟩ := h
    refine ⟨_, (pss_one (ps_if (pt_not (pt_truth (pe_callS (ok_is_within T) (hr.mono (by decide)) (by rfl) T.g_is_within T.k_is_within T.bd_is_within (passAt (takes_of rfl rfl rfl rfl)) (pa_cons (pv 1) (pa_cons pe_int (pa_cons (pe_op op_sub (pe_fld (pv 0) rfl) pe_int) pa_nil)))) (by intro _; rfl))) (pss_one (ps_raiseK rfl (takes_of rfl rfl rfl rfl) (pmk_ownK T.xc_NoPlace T.g_NoPlace rfl))) pss_nil)), ?_⟩
    have ho := hC.obj
    unfold chipF at ho
    walk_at "begin"
    walk_at "go"
    refine x_wNum hn ?_
    walk_at "go"
    refine x_iteB (fun h => ?_) (fun h => ?_)
    · walk_at "go"
      exact q1 h
    · walk_at "go"
      exact q2 h
theorem x_mBlock {T : Txt K mg} {H : Hp} {Q : VK} {E : XK} {σ : L2.St} {r : Addr} {F : CF} {c : Cs} {t : TA} (hC : ChipAt T.C_Chip H r F c) (h : t σ H fun vs H2 => spBlock T (.ref r :: vs) H2 Q E) : mtK P w K mg base (L2.CX P w) 3 "need_block" E σ t Q (.ref r) H :=
  x_mtK hC.obj ⟨⟨_, _, _, T.cl_Chip, T.m_Chip_need_block, ok_Chip_need_block T, T.bd_Chip_need_block⟩⟩ rfl h
theorem x_block {T : Txt K mg} {H : Hp} {Q : VK} {E : XK} {r : Addr} {F : CF} {c : Cs} {v : V} {o : Option Int} (hC : ChipAt T.C_Chip H r F c) (hn : Num v o) (q1 : inB o 0 (c.b - 1) = true → Q .non H) (q2 : inB o 0 (c.b - 1) = false → E (.ref T.C_NoPlace) none H) : spBlock T [.ref r, v] H Q E := ⟨r, F, c, v, o, rfl, hC, hn, q1, q2⟩
/-! the refusals with a field -/
def SmallI (v : V) : Prop := ∃ n : Int, v = .int n ∧ 0 ≤ n ∧ n < 300
theorem ok_BlockFailed_init (T : Txt K mg) : FO P w K mg base 1 T.a_BlockFailed_init T.fd_BlockFailed_init ["self", "block"] (spXInit K T.C_BlockFailed "block" SmallI) := by
  have sc := sc_BlockFailed_init
  refine T.F_BlockFailed_init.okX sc (fun vs H Q E h => ?_) (fun cdv A outer s H vs Q E hr h => ?_)
  · obtain ⟨_, _, rfl, _⟩ := h
    rfl
  · obtain ⟨a, v, rfl, ⟨n, rfl, h0, h1⟩, o, hn, ha, q⟩ := h
    refine ⟨_, (pss_cons (ps_expr (pe_weinit T.wi_WornError rfl T.g_WornError (pa_cons (pv 0) (pa_cons (pe_op op_uAdd (pe_op op_uAdd pe_str (pe_callTy ct_str (by rfl) T.b_str bt_str (pa_cons (pv 1) pa_nil))) pe_str) pa_nil))))
      (pss_one (ps_ost (pv 0) (pv 1)))), ?_⟩
    have hlog := small_log h0 (by omega : n < 1000000)
    have hlen := str_len h0 h1
    have z1 : (Str.ofString "block ").length + (Str.ofString (toString n)).length ≤ sizeLine := line_len (by
      have e1 : (Str.ofString "block ").length = 6 := by decide
      omega)
    have z2 : (Str.ofString "block " ++ Str.ofString (toString n)).length + (Str.ofString " failed").length ≤ sizeLine := line_len (by
      have e1 : (Str.ofString "block ").length = 6 := by decide
      have e2 : (Str.ofString " failed").length = 7 := by decide
      have e3 : (Str.ofString "block " ++ Str.ofString (toString n)).length = (Str.ofString "block ").length + (Str.ofString (toString n)).length := PySem.Str.length_append _ _
      omega)
    walk_at "begin"
    walk_at "go"
    refine x_veK o ha ?_ (Nat.le_of_ble_eq_true rfl)
    dsimp only
    refine x_ost ?_
    walk_at "go"
    exact ⟨a, _, rfl, o, hn, .inl ⟨ha, q⟩⟩
theorem ok_NotClear_init (T : Txt K mg) : FO P w K mg base 1 T.a_NotClear_init T.fd_NotClear_init ["self", "page"] (spXInit K T.C_NotClear "page" SmallI) := by
  have sc := sc_NotClear_init
  refine T.F_NotClear_init.okX sc (fun vs H Q E h => ?_) (fun cdv A outer s H vs Q E hr h => ?_)
  · obtain ⟨_, _, rfl, _⟩ := h
    rfl
  · obtain ⟨a, v, rfl, ⟨n, rfl, h0, h1⟩, o, hn, ha, q⟩ := h
    refine ⟨_, (pss_cons (ps_expr (pe_weinit T.wi_WornError rfl T.g_WornError (pa_cons (pv 0) (pa_cons (pe_op op_uAdd (pe_op op_uAdd pe_str (pe_callTy ct_str (by rfl) T.b_str bt_str (pa_cons (pv 1) pa_nil))) pe_str) pa_nil))))
      (pss_one (ps_ost (pv 0) (pv 1)))), ?_⟩
    have hlog := small_log h0 (by omega : n < 1000000)
    have hlen := str_len h0 h1
    have z1 : (Str.ofString "page ").length + (Str.ofString (toString n)).length ≤ sizeLine := line_len (by
      have e1 : (Str.ofString "page ").length = 5 := by decide
      omega)
    have z2 : (Str.ofString "page " ++ Str.ofString (toString n)).length + (Str.ofString " is not clear").length ≤ sizeLine := line_len (by
      have e1 : (Str.ofString "page ").length = 5 := by decide
      have e2 : (Str.ofString " is not clear").length = 13 := by decide
      have e3 : (Str.ofString "page " ++ Str.ofString (toString n)).length = (Str.ofString "page ").length + (Str.ofString (toString n)).length := PySem.Str.length_append _ _
      omega)
    walk_at "begin"
    walk_at "go"
    refine x_veK o ha ?_ (Nat.le_of_ble_eq_true rfl)
    dsimp only
    refine x_ost ?_
    walk_at "go"
    exact ⟨a, _, rfl, o, hn, .inl ⟨ha, q⟩⟩
def spGoodB (T : Txt K mg) : Sp := fun vs H Q E => ∃ (r : Addr) (F : CF) (c : Cs) (n : Int), vs = [.ref r, .int n] ∧ ChipAt T.C_Chip H r F c ∧ 0 ≤ n ∧ n < c.b ∧ (c.broken.getD n.toNat false = false → Q .non H) ∧
  (c.broken.getD n.toNat false = true → ∀ d H1, Same H H1 → H d = none → H1 d = some (.xd [("block", .int n)]) → E (.ref T.C_BlockFailed) (some d) H1)
theorem ok_Chip_need_good (T : Txt K mg) : FO P w K mg base 3 T.a_Chip_need_good T.fd_Chip_need_good ["self", "block"] (spGoodB T) := by
  have sc := sc_Chip_need_good
  refine T.F_Chip_need_good.okX sc (fun vs H Q E h => ?_) (fun cdv A outer s H vs Q E hr h => ?_)
  · obtain ⟨_, _, _, _, rfl, _⟩ := h
    rfl
  · obtain ⟨r, F, c, n, rfl, hC, h0, h1, q1, q2⟩ := h
    refine ⟨_, (pss_one (ps_if (pt_truth (pe_ix ix_seq (pe_fld (pv 0) rfl) (pv 1) (fun _ _ => rfl)) (by intro _; rfl)) (pss_one (ps_raiseK rfl (takes_of rfl rfl rfl rfl) (pmk_oex T.xi_BlockFailed.o T.xi_BlockFailed.i T.xi_BlockFailed.t (ok_BlockFailed_init T) (hr.mono (by decide)) T.bd_BlockFailed_init .nil passE0 rfl T.g_BlockFailed (pa_cons (pv 1) pa_nil)))) pss_nil)), ?_⟩
    have ho := hC.obj
    have hbr := hC.br
    have hsz := hC.sz.broken
    have hb := hC.sz.b
    unfold chipF at ho
    walk_at "begin"
    walk_at "go"
    refine x_iteB (fun h => ?_) (fun h => ?_)
    · walk_at "go"
      refine x_moK ⟨n, rfl, h0, by omega⟩ (fun d H1 hd hs hx => q2 h d H1 hs hd hx) T.xi_BlockFailed.o T.nx_BlockFailed_block
    · walk_at "go"
      exact q1 h
theorem x_mGoodB {T : Txt K mg} {H : Hp} {Q : VK} {E : XK} {σ : L2.St} {r : Addr} {F : CF} {c : Cs} {t : TA} (hC : ChipAt T.C_Chip H r F c) (h : t σ H fun vs H2 => spGoodB T (.ref r :: vs) H2 Q E) : mtK P w K mg base (L2.CX P w) 3 "need_good" E σ t Q (.ref r) H :=
  x_mtK hC.obj ⟨⟨_, _, _, T.cl_Chip, T.m_Chip_need_good, ok_Chip_need_good T, T.bd_Chip_need_good⟩⟩ rfl h
/-! a deed begins -/
def Cs.tick (c : Cs) (n : Nat) (well : Bool) : Cs := { c with left := c.left.map (· - 1), tried := c.tried.set n (c.tried.getD n 0 + 1), broken := c.broken.set n (!well) }
def Cs.well (c : Cs) (n : Nat) (worn : Bool) : Bool := !worn && !decide (V.int (c.tried.getD n 0) = c.lasts.getD n .non)
theorem Sizes.tick {c : Cs} (h : Sizes c) (n : Nat) (well : Bool) : Sizes (c.tick n well) := ⟨h.b, h.p, h.m, h.lasts, h.stuff, by show ((c.tried.set _ _).length : Int) = _; rw [List.length_set]; exact h.tried, h.clr, by show ((c.broken.set _ _).length : Int) = _; rw [List.length_set]; exact h.broken, h.lsc⟩
def spGoes (T : Txt K mg) : Sp := fun vs H Q _ => ∃ (r : Addr) (F : CF) (c : Cs) (n : Int) (worn : Bool), vs = [.ref r, .int n, .bl worn] ∧ ChipAt T.C_Chip H r F c ∧ 0 ≤ n ∧ n < c.b ∧
  ∀ H', Off (F.all r) H H' → ChipAt T.C_Chip H' r F (c.tick n.toNat (c.well n.toNat worn)) → Q (.bl (c.well n.toNat worn)) H'
theorem lsc_scal {c : Cs} (h : Sizes c) {n : Nat} (hn : (n : Int) < c.b) {m : Int} : scal (.int m) (c.lasts.getD n .non) = true := by
  have hl := h.lasts
  have hlt : n < c.lasts.length := by omega
  rcases h.lsc _ (List.getElem_mem hlt) with e | ⟨k, e⟩ <;> simp [hlt, e, scal]
theorem ok_Chip_goes_well (T : Txt K mg) : FO P w K mg base 1 T.a_Chip_goes_well T.fd_Chip_goes_well ["self", "block", "worn"] (spGoes T) := by
  have sc := sc_Chip_goes_well
  refine T.F_Chip_goes_well.okX sc (fun vs H Q E h => ?_) (fun cdv A outer s H vs Q E hr h => ?_)
  · obtain ⟨_, _, _, _, _, rfl, _⟩ := h
    rfl
  · obtain ⟨r, F, c, n, worn, rfl, hC, h0, h1, q⟩ := h
    refine ⟨_, (pss_cons (ps_if (pt_cmpR op_uIsNot (pe_fld (pv 0) rfl) pe_non (nomark _)) (pss_one (ps_fldaug (pv 0) pe_int in_sub)) pss_nil)
      (pss_cons (ps_set (i := 3) sc.nd rfl (by first | exact Or.inl rfl | exact Or.inr rfl) (pe_andT (pe_notT (pv 2)) (pe_one (pe_cmpR (op_uNe hr.units) (pe_ix ix_seq (pe_fld (pv 0) rfl) (pv 1) (fun _ _ => rfl)) (pe_ix ix_seq (pe_fld (pv 0) rfl) (pv 1) (fun _ _ => rfl)) (nomark _)))))
      (pss_cons (ps_augS (pe_fld (pv 0) rfl) (pv 1) get_list pe_int ip_add set_list)
      (pss_cons (ps_asg (pe_notT (pv 3)) (pg_sub (pe_fld (pv 0) rfl) (pv 1) set_list))
      (pss_one (ps_ret (pv 3))))))), ?_⟩
    obtain ⟨⟨n1, n2, n3, n4, n5, n6⟩, ⟨n7, n8, n9, n10, n11⟩, ⟨n12, n13, n14, n15⟩, ⟨n16, n17, n18⟩, ⟨n19, n20⟩, n21⟩ := hC.ne
    have ho := hC.obj
    have hla := hC.la
    have hst := hC.st
    have htr := hC.tr
    have hcl := hC.cl
    have hbr := hC.br
    have hsz := hC.sz
    obtain ⟨lvs, hlg, hlog⟩ := hC.lg
    have z1 := hsz.lasts
    have z2 := hsz.tried
    have z3 := hsz.broken
    unfold chipF at ho
    walk_at "begin"
    refine x_join (fun σ' H1 => σ' = [some (.ref r), some (.int n), some (.bl worn), none] ∧ Off [r] H H1 ∧ H1 r = some (.ins T.C_Chip F.dx (chipF F (c.tick n.toNat (c.well n.toNat worn))))) (fun R hR => ?_) ?_
    · walk_at "go"
      cases hl : c.left with
      | none =>
        rw [hl] at ho
        refine iteT ?_
        walk_at "go"
        refine hR _ _ ⟨rfl, Off.refl, ?_⟩
        rw [ho]
        unfold chipF Cs.tick
        rw [hl]
        rfl
      | some m =>
        rw [hl] at ho
        refine iteF ?_
        walk_at "go"
        refine x_faK ho rfl ?_ T.cl_Chip T.na_Chip_left
        walk_at "go"
        refine x_rSub ?_
        refine x_f3O (fs' := chipF F (c.tick n.toNat (c.well n.toNat worn))) ho ?_ (fun H1 hO hI => ?_) (Nat.le_of_ble_eq_true rfl)
        · unfold chipF Cs.tick
          rw [hl]
          rfl
        · exact hR _ _ ⟨rfl, hO, hI⟩
    intro σ' H1 ⟨hσ, hO1, ho1⟩
    subst hσ
    have ho1' := ho1
    unfold chipF at ho1
    refine x_join (fun σ' H' => σ' = [some (.ref r), some (.int n), some (.bl worn), some (.bl (c.well n.toNat worn))] ∧ H' = H1) (fun R hR => ?_) ?_
    · walk_at "go"
      cases worn with
      | true => exact iteT (hR _ _ ⟨rfl, rfl⟩)
      | false =>
        refine iteF ?_
        walk_at "go"
        refine x_neSc (lsc_scal hsz (n := n.toNat) (by omega)) ?_
        exact hR _ _ ⟨rfl, rfl⟩
    intro σ' H' ⟨hσ, hH⟩
    subst hσ hH
    walk_at "go"
    rename_i H2 hO2 hI2 H3 hO3 hI3
    have f1 : H3 r = some (.ins T.C_Chip F.dx (chipF F (c.tick n.toNat (c.well n.toNat worn)))) := by walk_at "hp"
    have f2 : H3 F.la = some (.lst c.lasts) := by walk_at "hp"
    have f3 : H3 F.st = some (.lst c.stuff) := by walk_at "hp"
    have f4 : H3 F.cl = some (.lst (c.clr.map V.int)) := by walk_at "hp"
    have f5 : H3 F.lg = some (.lst lvs) := by walk_at "hp"
    have f6 : H3 F.tr = some (.lst ((c.tried.set n.toNat (c.tried.getD n.toNat 0 + 1)).map V.int)) := by
      rw [List.map_set]
      walk_at "hp"
    have f7 : H3 F.br = some (.lst ((c.broken.set n.toNat (!c.well n.toNat worn)).map V.bl)) := by
      rw [List.map_set]
      exact hI3
    have hoff : Off (F.all r) H H3 := by unfold CF.all; walk_at "off"
    exact q H3 hoff ⟨f1, f2, f3, f6, f4, f7, ⟨lvs, f5, hlog.mono (hC.tups hoff)⟩, hC.nd, hsz.tick _ _⟩
theorem x_mGoes {T : Txt K mg} {H : Hp} {Q : VK} {E : XK} {σ : L2.St} {r : Addr} {F : CF} {c : Cs} {t : TA} (hC : ChipAt T.C_Chip H r F c) (h : t σ H fun vs H2 => spGoes T (.ref r :: vs) H2 Q E) : mtK P w K mg base (L2.CX P w) 1 "goes_well" E σ t Q (.ref r) H :=
  x_mtK hC.obj ⟨⟨_, _, _, T.cl_Chip, T.m_Chip_goes_well, ok_Chip_goes_well T, T.bd_Chip_goes_well⟩⟩ rfl h
/-- how an asking ends, in a heap -/
def Fin (T : Txt K mg) (res : Res) (Qn : Hp → Prop) (E : XK) (H' : Hp) : Prop := match res with
  | .ok => Qn H'
  | .place => E (.ref T.C_NoPlace) none H'
  | .dark => E (.ref T.C_PowerGone) none H'
  | .failed b => ∀ d, H' d = some (.xd [("block", .int b)]) → E (.ref T.C_BlockFailed) (some d) H'
  | .clear n => ∀ d, H' d = some (.xd [("page", .int n)]) → E (.ref T.C_NotClear) (some d) H'
  | .value => False
theorem x_finOk {T : Txt K mg} {Qn : Hp → Prop} {E : XK} {H' : Hp} (h : Qn H') : Fin T .ok Qn E H' := h
theorem x_finDark {T : Txt K mg} {Qn : Hp → Prop} {E : XK} {H' : Hp} (h : E (.ref T.C_PowerGone) none H') : Fin T .dark Qn E H' := h
theorem x_finPlace {T : Txt K mg} {Qn : Hp → Prop} {E : XK} {H' : Hp} (h : E (.ref T.C_NoPlace) none H') : Fin T .place Qn E H' := h

/-! ### put -/
def Cs.said (c : Cs) (k : Nat) (w : Bool) (e : Str × Int) : Cs := { c.tick k w with log := c.log ++ [(e.1, e.2, w)] }
def Cs.putR (c : Cs) (o : Option Int) (v : V) : Res × Cs :=
  if inB o 0 (c.b * c.p - 1) = false then (.place, c) else if c.dark = true then (.dark, c)
  else if c.broken.getD (o.getD 0 / c.p).toNat false = true then (.failed (o.getD 0 / c.p), c)
  else if c.stuff.getD (o.getD 0).toNat .non ≠ .non then (.clear (o.getD 0), c)
  else if c.well (o.getD 0 / c.p).toNat false = true then (.ok, { c.said (o.getD 0 / c.p).toNat true ("put", o.getD 0) with stuff := c.stuff.set (o.getD 0).toNat v })
  else (.failed (o.getD 0 / c.p), c.said (o.getD 0 / c.p).toNat false ("put", o.getD 0))
theorem Sizes.said {c : Cs} (h : Sizes c) (n : Nat) (w : Bool) (e : Str × Int) : Sizes (c.said n w e) := ⟨(h.tick n w).b, h.p, h.m, h.lasts, h.stuff, (h.tick n w).tried, h.clr, (h.tick n w).broken, h.lsc⟩
theorem LogAll.snoc {H : Hp} {vs : List V} {es : List (Str × Int × Bool)} {v : V} {e : Str × Int × Bool} (h : LogAll H vs es) (hv : LogAt H v e) : LogAll H (vs ++ [v]) (es ++ [e]) := by
  refine ⟨by simp [h.1], fun i x y h1 h2 => ?_⟩
  by_cases hi : i < vs.length
  · rw [List.getElem?_append_left hi] at h1
    rw [List.getElem?_append_left (h.1 ▸ hi)] at h2
    exact h.2 i x y h1 h2
  · have e : i = vs.length := by
      have := (List.getElem?_eq_some_iff.mp h1).1
      simp at this
      omega
    subst e
    rw [List.getElem?_append_right (Nat.le_refl _)] at h1
    rw [h.1, List.getElem?_append_right (Nat.le_refl _)] at h2
    simp at h1 h2
    subst h1 h2
    exact hv
local macro_rules | `(tactic| walk_at "u") => `(tactic| ((with_reducible refine' x_appO ?ho ?_ ?hl); (case ho => walk_at "hp"); (try (case hl => walk_at "side")); intro H1 hO hI; (try dsimp only)))
def spPut (T : Txt K mg) : Sp := fun vs H Q E => ∃ (r : Addr) (F : CF) (c : Cs) (vp v : V) (o : Option Int), vs = [.ref r, vp, v] ∧ ChipAt T.C_Chip H r F c ∧ Num vp o ∧ c.log.length < 900000 ∧
  ∀ H', Off (F.all r) H H' → ChipAt T.C_Chip H' r F (c.putR o v).2 → Fin T (c.putR o v).1 (Q .non) E H'
theorem ok_Chip_put (T : Txt K mg) : FO P w K mg base 4 T.a_Chip_put T.fd_Chip_put ["self", "page", "stuff"] (spPut T) := by
  have sc := sc_Chip_put
  refine T.F_Chip_put.okX sc (fun vs H Q E h => ?_) (fun cdv A outer s H vs Q E hr h => ?_)
  · obtain ⟨_, _, _, _, _, _, rfl, _⟩ := h
    rfl
  · obtain ⟨r, F, c, vp, v, o, rfl, hC, hn, hll, q⟩ := h
    refine ⟨_, (pss_cons (ps_expr (pe_methD (k := 3) (pv 0) (hr.mono (by decide)) (passAt (takes_of rfl rfl rfl rfl)) (pa_cons (pv 1) pa_nil)))
      (pss_cons (ps_expr (pe_methD0 (k := 2) (pv 0) (hr.mono (by decide)) (passAt (takes_of rfl rfl rfl rfl))))
      (pss_cons (ps_set (i := 3) sc.nd rfl (by first | exact Or.inl rfl | exact Or.inr rfl) (pe_op op_fdivW (pv 1) (pe_fld (pv 0) rfl)))
      (pss_cons (ps_expr (pe_methD (k := 3) (pv 0) (hr.mono (by decide)) (passAt (takes_of rfl rfl rfl rfl)) (pa_cons (pv 3) pa_nil)))
      (pss_cons (ps_if (pt_cmpR op_uIsNot (pe_ix ix_seq (pe_fld (pv 0) rfl) (pv 1) (fun _ _ => rfl)) pe_non (nomark _)) (pss_one (ps_raiseK rfl (takes_of rfl rfl rfl rfl) (pmk_oex T.xi_NotClear.o T.xi_NotClear.i T.xi_NotClear.t (ok_NotClear_init T) (hr.mono (by decide)) T.bd_NotClear_init .nil passE0 rfl T.g_NotClear (pa_cons (pv 1) pa_nil)))) pss_nil)
      (pss_cons (ps_set (i := 4) sc.nd rfl (by first | exact Or.inl rfl | exact Or.inr rfl) (pe_methD (k := 1) (pv 0) (hr.mono (by decide)) (passAt (takes_of rfl rfl rfl rfl)) (pa_cons (pv 3) (pa_cons pe_bl pa_nil))))
      (pss_cons (ps_expr (pe_bm PySem.F.plainAttrs_list PySem.F.slot_list_append PySem.F.type_list_append mt_append (pe_fld (pv 0) rfl) (pa_cons (pe_tup (pa_cons pe_str (pa_cons (pv 1) (pa_cons (pv 4) pa_nil)))) pa_nil)))
      (pss_cons (ps_if (pt_not (pt_truth (pv 4) (by intro _; rfl))) (pss_one (ps_raiseK rfl (takes_of rfl rfl rfl rfl) (pmk_oex T.xi_BlockFailed.o T.xi_BlockFailed.i T.xi_BlockFailed.t (ok_BlockFailed_init T) (hr.mono (by decide)) T.bd_BlockFailed_init .nil passE0 rfl T.g_BlockFailed (pa_cons (pv 3) pa_nil)))) pss_nil)
      (pss_one (ps_asg (pv 2) (pg_sub (pe_fld (pv 0) rfl) (pv 1) set_list))))))))))), ?_⟩
    unfold Cs.putR at q
    have hsz := hC.sz
    obtain ⟨hb1, hb2⟩ := hsz.b
    obtain ⟨hp1, hp2⟩ := hsz.p
    walk_at "begin"
    walk_at "go"
    refine x_mPage hC ?_
    walk_at "go"
    refine x_page hC hn (fun hin => ?_) (fun hin => ?_)
    rotate_left
    · rw [if_pos hin] at q
      exact q H Off.refl hC
    rw [if_neg (by rw [hin]; decide)] at q
    obtain ⟨n, rfl, rfl, h0, h1⟩ := hn.of_inB hin
    dsimp only [Option.getD] at q
    have hk0 : 0 ≤ n / c.p := Int.ediv_nonneg h0 (by omega)
    have hk1 : n / c.p < c.b := Int.ediv_lt_of_lt_mul (by omega) (by omega)
    walk_at "go"
    refine x_mPower hC (fun hd => ?_) (fun hd => ?_)
    rotate_left
    · rw [if_pos hd] at q
      exact q H Off.refl hC
    rw [if_neg (by rw [hd]; decide)] at q
    have ho := hC.obj
    unfold chipF at ho
    have hst := hC.st
    have z4 := hsz.stuff
    walk_at "go"
    refine x_mGoodB hC ?_
    walk_at "go"
    refine ⟨r, F, c, _, rfl, hC, hk0, hk1, fun hg => ?_, fun hg d H1 hs hd1 hx => ?_⟩
    rotate_left
    · rw [if_pos hg] at q
      exact q H1 (Off.of hs) (hC.mono hs) d hx
    rw [if_neg (by rw [hg]; decide)] at q
    walk_at "go"
    walk_at "if"
    have hbp : c.b * c.p ≤ 16 * 16 := Int.mul_le_mul hb2 hp2 (by omega) (by decide)
    refine x_iteD (fun hcl => ?_) (fun hcl => ?_)
    rotate_left
    · walk_at "go"
      refine x_moK ⟨n, rfl, h0, by omega⟩ (fun d H1 hd hs hx => ?_) T.xi_NotClear.o T.nx_NotClear_page
      rw [if_pos hcl] at q
      exact q H1 (Off.of hs) (hC.mono hs) d hx
    rw [if_neg (fun z => z hcl)] at q
    walk_at "go"
    refine x_mGoes hC ?_
    walk_at "go"
    refine ⟨r, F, c, n / c.p, false, rfl, hC, hk0, hk1, fun H1 hO1 hC1 => ?_⟩
    obtain ⟨⟨n1, n2, n3, n4, n5, n6⟩, ⟨n7, n8, n9, n10, n11⟩, ⟨n12, n13, n14, n15⟩, ⟨n16, n17, n18⟩, ⟨n19, n20⟩, n21⟩ := hC.ne
    have hsz1 := hsz.said (n / c.p).toNat (c.well (n / c.p).toNat false) ("put", n)
    have hlog := hC1.lg
    have o1' := hC1.obj
    have a1 := hC1.la
    have a2 := hC1.st
    have a3 := hC1.tr
    have a4 := hC1.cl
    have a5 := hC1.br
    obtain ⟨lvs, hlg, hla⟩ := hlog
    have hlv : lvs.length < sizeLine := Nat.lt_of_lt_of_le (m := 900000) (by rw [hla.1]; exact hll) (by decide)
    have hla1 : LogAll H1 lvs c.log := hla
    obtain ⟨w, hw⟩ : ∃ w, c.well (n / c.p).toNat false = w := ⟨_, rfl⟩
    have qT : w = true → ∀ H', Off (F.all r) H H' → ChipAt T.C_Chip H' r F { c.said (n / c.p).toNat true ("put", n) with stuff := c.stuff.set n.toNat v } → Q .non H' := fun h => by
      rw [if_pos (hw.trans h)] at q
      exact q
    have qF : w = false → ∀ H', Off (F.all r) H H' → ChipAt T.C_Chip H' r F (c.said (n / c.p).toNat false ("put", n)) → ∀ d, H' d = some (.xd [("block", .int (n / c.p))]) → E (.ref T.C_BlockFailed) (some d) H' := fun h => by
      rw [if_neg (by rw [hw, h]; decide)] at q
      exact q
    clear q
    rw [hw] at o1' a1 a2 a3 a4 a5 hsz1 hC1 ⊢
    have o1 := o1'
    unfold chipF at o1
    have hoff1 := hO1
    have hO1 := hoff1
    clear hO1
    walk_at "go"
    rename_i qt H2 hqt hs2 hn2 H3 hO3 hI3
    have f1 : H3 r = some (.ins T.C_Chip F.dx (chipF F (c.tick (n / c.p).toNat w))) := by walk_at "hp"
    have f2 : H3 F.la = some (.lst c.lasts) := by walk_at "hp"
    have f3 : H3 F.st = some (.lst c.stuff) := by walk_at "hp"
    have f4 : H3 F.cl = some (.lst (c.clr.map V.int)) := by walk_at "hp"
    have f6 : H3 F.tr = some (.lst ((c.tick (n / c.p).toNat w).tried.map V.int)) := by walk_at "hp"
    have f7 : H3 F.br = some (.lst ((c.tick (n / c.p).toNat w).broken.map V.bl)) := by walk_at "hp"
    have hoff13 : Off (F.all r) H1 H3 := by unfold CF.all; walk_at "off"
    have hoff3 := hoff1.trans hoff13
    have hq3 : H3 qt = some (.tup [.str "put", .int n, .bl w]) := hO3.at hn2 (nin_of (ne_of_none hlg hqt).symm)
    have hla3 : LogAll H3 (lvs ++ [.ref qt]) (c.log ++ [(("put" : Str), n, w)]) := ((hla1.mono (hC1.tups hoff13))).snoc ⟨qt, rfl, hq3⟩
    have hC3 : ChipAt T.C_Chip H3 r F (c.said (n / c.p).toNat w ("put", n)) := ⟨f1, f2, f3, f6, f4, f7, ⟨_, hI3, hla3⟩, hC.nd, hsz1⟩
    refine x_join (fun σ' H' => σ' = [some (.ref r), some (.int n), some v, some (.int (n / c.p)), some (.bl w)] ∧ H' = H3 ∧ w = true) (fun R hR => ?_) ?_
    · walk_at "go"
      refine x_iteB (fun h => ?_) (fun h => ?_)
      · walk_at "go"
        exact hR _ _ ⟨rfl, rfl, h⟩
      · subst h
        walk_at "go"
        refine x_moK ⟨n / c.p, rfl, hk0, by omega⟩ (fun d H4 hd hs hx => ?_) T.xi_BlockFailed.o T.nx_BlockFailed_block
        exact qF rfl H4 (hoff3.trans (Off.of hs)) (hC3.mono hs) d hx
    intro σ' H' ⟨hσ, hH, hwt⟩
    subst hσ hH hwt
    unfold chipF at f1
    have hC3' := hC3
    clear hoff13
    have hst3 : (n : Int) < c.stuff.length := by omega
    walk_at "go"
    rename_i H4 hO4 hI4
    have g1 : H4 r = some (.ins T.C_Chip F.dx (chipF F (c.tick (n / c.p).toNat true))) := by unfold chipF; walk_at "hp"
    have g2 : H4 F.la = some (.lst c.lasts) := by walk_at "hp"
    have g4 : H4 F.cl = some (.lst (c.clr.map V.int)) := by walk_at "hp"
    have g6 : H4 F.tr = some (.lst ((c.tick (n / c.p).toNat true).tried.map V.int)) := by walk_at "hp"
    have g7 : H4 F.br = some (.lst ((c.tick (n / c.p).toNat true).broken.map V.bl)) := by walk_at "hp"
    have g8 : H4 F.lg = some (.lst (lvs ++ [.ref qt])) := by walk_at "hp"
    have hoff34 : Off (F.all r) H' H4 := by unfold CF.all; walk_at "off"
    exact qT rfl H4 (hoff3.trans hoff34) ⟨g1, g2, hI4, g6, g4, g7, ⟨_, g8, hla3.mono (hC3'.tups hoff34)⟩, hC.nd, ⟨hsz1.b, hsz1.p, hsz1.m, hsz1.lasts, by show ((c.stuff.set _ _).length : Int) = _; rw [List.length_set]; exact hsz.stuff, hsz1.tried, hsz1.clr, hsz1.broken, hsz1.lsc⟩⟩
theorem x_mPut {T : Txt K mg} {H : Hp} {Q : VK} {E : XK} {σ : L2.St} {r : Addr} {F : CF} {c : Cs} {t : TA} (hC : ChipAt T.C_Chip H r F c) (h : t σ H fun vs H2 => spPut T (.ref r :: vs) H2 Q E) : mtK P w K mg base (L2.CX P w) 4 "put" E σ t Q (.ref r) H :=
  x_mtK hC.obj ⟨⟨_, _, _, T.cl_Chip, T.m_Chip_put, ok_Chip_put T, T.bd_Chip_put⟩⟩ rfl h

/-! ### a new chip -/
def endF (n : Int) : List (Option Int × Option Int) → List V → Option (List V)
  | [], l => some l
  | (b, g) :: r, l => if inB b 0 (n - 1) = true then if inB g 0 1000000 = true then if l.getD (b.getD 0).toNat .non = .non then endF n r (l.set (b.getD 0).toNat (.int (g.getD 0))) else none else none else none
theorem endF_cons {n : Int} {b g : Option Int} {r : List (Option Int × Option Int)} {l : List V} : endF n ((b, g) :: r) l = if inB b 0 (n - 1) = true then if inB g 0 1000000 = true then if l.getD (b.getD 0).toNat .non = .non then endF n r (l.set (b.getD 0).toNat (.int (g.getD 0))) else none else none else none := rfl
def IllsAt (H : Hp) (v : V) (is : List (Option Int × Option Int)) : Prop := (v = .non ∧ is = []) ∨ ∃ q vs, v = .ref q ∧ (H q = some (.lst vs) ∨ H q = some (.tup vs)) ∧ vs.length = is.length ∧ ∀ (i : Nat) x e, vs[i]? = some x → is[i]? = some e → ∃ t vb vg, x = .ref t ∧ H t = some (.tup [vb, vg]) ∧ Num vb e.1 ∧ Num vg e.2
def spEndu (T : Txt K mg) : Sp := fun vs H Q E => ∃ (n : Int) (vi : V) (is : List (Option Int × Option Int)), vs = [.int n, vi] ∧ 2 ≤ n ∧ n ≤ 16 ∧ IllsAt H vi is ∧
  (∀ l, endF n is (List.replicate n.toNat .non) = some l → ∀ p H', Same H H' → H p = none → H' p = some (.lst l) → Q (.ref p) H') ∧
  (endF n is (List.replicate n.toNat .non) = none → ∀ H', Same H H' → E (.ref T.C_NoChip) none H')
theorem ok_endurance (T : Txt K mg) : FO P w K mg base 3 T.a_endurance T.fd_endurance ["blocks", "ills"] (spEndu T) := by
  have sc := sc_endurance
  refine T.F_endurance.okX sc (fun vs H Q E h => ?_) (fun cdv A outer s H vs Q E hr h => ?_)
  · obtain ⟨_, _, _, rfl, _⟩ := h
    rfl
  · obtain ⟨n, vi, is, rfl, h2, h16, hi, q1, q2⟩ := h
    refine ⟨_, (pss_cons (ps_set (i := 2) sc.nd rfl (by first | exact Or.inl rfl | exact Or.inr rfl) (pe_op op_uMul (pe_lst (pa_cons pe_non pa_nil)) (pv 0)))
      (pss_cons (ps_if (pt_cmpR op_uIs (pv 1) pe_non (nomark _)) (pss_one (ps_ret (pv 2))) pss_nil)
      (pss_cons (ps_for (passes_of rfl) rfl (pi_seq (pv 1)) (pg_tup (by rfl) (pgs_cons (pg_name (i := 3) sc.nd rfl (by first | exact Or.inl rfl | exact Or.inr rfl)) (pgs_cons (pg_name (i := 4) sc.nd rfl (by first | exact Or.inl rfl | exact Or.inr rfl)) pgs_nil))) (pss_cons (ps_if (PW.pt (pw_or (pt_not (pt_truth (pe_callS (ok_is_within T) (hr.mono (by decide)) (by rfl) T.g_is_within T.k_is_within T.bd_is_within (passAt (takes_of rfl rfl rfl rfl)) (pa_cons (pv 3) (pa_cons pe_int (pa_cons (pe_op op_sub (pv 0) pe_int) pa_nil)))) (by intro _; rfl))) (pw_or1 (pt_not (pt_truth (pe_callS (ok_is_within T) (hr.mono (by decide)) (by rfl) T.g_is_within T.k_is_within T.bd_is_within (passAt (takes_of rfl rfl rfl rfl)) (pa_cons (pv 4) (pa_cons pe_int (pa_cons (pe_glob rfl T.g_MOST T.r_MOST) pa_nil)))) (by intro _; rfl)))))) (pss_one (ps_raiseK rfl (takes_of rfl rfl rfl rfl) (pmk_ownK T.xc_NoChip T.g_NoChip rfl))) pss_nil)
      (pss_cons (ps_if (pt_cmpR op_uIsNot (pe_ix ix_seq (pv 2) (pv 3) (fun _ _ => rfl)) pe_non (nomark _)) (pss_one (ps_raiseK rfl (takes_of rfl rfl rfl rfl) (pmk_ownK T.xc_NoChip T.g_NoChip rfl))) pss_nil)
      (pss_one (ps_asg (pv 4) (pg_sub (pv 2) (pv 3) set_list))))))
      (pss_one (ps_ret (pv 2)))))), ?_⟩
    walk_at "begin"
    walk_at "go"
    rename_i p0 H0 hp0 hs0 hn0 p H1 hp hs1 hn1
    have hpH : H p = none := same_none hs0 hp
    have s01 : Same H H1 := hs0.trans hs1
    rcases hi with ⟨rfl, rfl⟩ | ⟨qi, vs, rfl, hq, hlen, hall⟩
    · walk_at "if"
      refine iteT ?_
      walk_at "go"
      exact q1 _ rfl p H1 s01 hpH hn1
    · walk_at "if"
      refine iteF ?_
      walk_at "go"
      refine x_seq ?_
      walk_at "go"
      obtain ⟨kq, hkq⟩ := sqB_of (K := K) hq
      refine x_frS (hkq _ s01) (fun i σ H2 => ∃ (v3 v4 : Option V) (l : List V), σ = [some (.int n), some (.ref qi), some (.ref p), v3, v4] ∧ Same H H2 ∧ H2 p = some (.lst l) ∧ (l.length : Int) = n ∧ (∀ x ∈ l, x = .non ∨ ∃ k : Int, x = .int k) ∧ endF n is (List.replicate n.toNat .non) = endF n (is.drop i) l)
        ⟨_, _, _, rfl, s01, hn1, by rw [List.length_replicate]; omega, fun x hx => .inl (List.eq_of_mem_replicate hx), rfl⟩ (fun i σ H2 _ ⟨_, _, _, _, hs2, _⟩ => hkq _ hs2) ?_ ?_
      · intro i x σ H2 hx ⟨v3, v4, l, hσ, hs2, hp2, hll, hlx, he⟩
        subst hσ
        have hil := (List.getElem?_eq_some_iff.mp hx).1
        obtain ⟨t, vb, vg, rfl, ht, hnb, hng⟩ := hall i x _ hx (List.getElem?_eq_getElem (hlen ▸ hil))
        have hil2 : i < is.length := hlen ▸ hil
        rw [List.drop_eq_getElem_cons hil2] at he
        generalize is[i] = e at hnb hng he
        obtain ⟨eb, eg⟩ := e
        dsimp only at hnb hng
        rw [endF_cons] at he
        have ht2 := hs2 _ _ ht
        refine x_gtup2 (SqT.of ht2) ?_
        dsimp only [List.set]
        walk_at "if"
        refine x_wNum hnb ?_
        walk_at "go"
        refine x_iteB (fun hb => ?_) (fun hb => ?_)
        rotate_left
        · rw [if_neg (by rw [hb]; decide)] at he
          walk_at "go"
          exact q2 he H2 hs2
        rw [if_pos hb] at he
        obtain ⟨b, rfl, rfl, hb1, hb2⟩ := hnb.of_inB hb
        walk_at "go"
        refine x_wNum hng ?_
        walk_at "go"
        refine x_iteB (fun hg => ?_) (fun hg => ?_)
        rotate_left
        · rw [if_neg (by rw [hg]; decide)] at he
          walk_at "go"
          exact q2 he H2 hs2
        rw [if_pos hg] at he
        obtain ⟨g, rfl, rfl, hg1, hg2⟩ := hng.of_inB hg
        dsimp only [Option.getD_some] at he
        walk_at "go"
        walk_at "if"
        refine x_iteD (fun hl => ?_) (fun hl => ?_)
        rotate_left
        · rw [if_neg hl] at he
          walk_at "go"
          exact q2 he H2 hs2
        rw [if_pos hl] at he
        walk_at "go"
        rename_i H3 hO3 hI3
        refine ⟨_, _, l.set b.toNat (.int g), rfl, Off.same1 hs2 hO3 hpH, hI3, by rw [List.length_set]; exact hll, fun x hx => ?_, he⟩
        rcases List.mem_or_eq_of_mem_set hx with hx | hx
        · exact hlx x hx
        · exact .inr ⟨g, hx⟩
      · intro σ H2 ⟨v3, v4, l, hσ, hs2, hp2, hll, hlx, he⟩
        subst hσ
        rw [hlen, List.drop_length] at he
        walk_at "go"
        exact q1 l he p H2 hs2 hpH hp2
theorem x_endu {T : Txt K mg} {H : Hp} {Q : VK} {E : XK} {n : Int} {vi : V} {is : List (Option Int × Option Int)} (hi : IllsAt H vi is)
  (q1 : ∀ l, endF n is (List.replicate n.toNat .non) = some l → ∀ p H', Same H H' → H p = none → H' p = some (.lst l) → Q (.ref p) H')
  (q2 : endF n is (List.replicate n.toNat .non) = none → ∀ H', Same H H' → E (.ref T.C_NoChip) none H') (h2 : 2 ≤ n ∧ n ≤ 16) : spEndu T [.int n, vi] H Q E := ⟨n, vi, is, rfl, h2.1, h2.2, hi, q1, q2⟩
theorem endF_len {n : Int} : ∀ {is : List (Option Int × Option Int)} {l l' : List V}, endF n is l = some l' → (∀ x ∈ l, x = .non ∨ ∃ k : Int, x = .int k) → l'.length = l.length ∧ ∀ x ∈ l', x = .non ∨ ∃ k : Int, x = .int k
  | [], l, l', h, hx => by cases h; exact ⟨rfl, hx⟩
  | (b, g) :: r, l, l', h, hx => by
    unfold endF at h
    split at h
    · split at h
      · split at h
        · obtain ⟨h1, h2⟩ := endF_len h (fun x m => by
            rcases List.mem_or_eq_of_mem_set m with m | m
            · exact hx x m
            · exact .inr ⟨_, m⟩)
          rw [List.length_set] at h1
          exact ⟨h1, h2⟩
        · cases h
      · cases h
    · cases h
def Cs.new (b p m : Int) (l : List V) : Cs := { b, p, m, lasts := l, stuff := List.replicate (b * p).toNat .non, tried := List.replicate b.toNat 0, clr := List.replicate b.toNat 0, broken := List.replicate b.toNat false, left := none, log := [] }
def chipGood (b p m : Option Int) : Bool := inB b 2 16 && inB p 1 16 && inB m 0 1000000
def spCInit (T : Txt K mg) : Sp := fun vs H Q E => ∃ (r dx : Addr) (vb vp vm vi : V) (b p m : Option Int) (is : List (Option Int × Option Int)), vs = [.ref r, vb, vp, vm, vi] ∧ H r = some (.ins T.C_Chip dx []) ∧ Num vb b ∧ Num vp p ∧ Num vm m ∧ IllsAt H vi is ∧
  (chipGood b p m = true → ∀ l, endF (b.getD 0) is (List.replicate (b.getD 0).toNat .non) = some l → ∀ F H', Off [r] H H' → (∀ a ∈ F.all r, a ≠ r → H a = none) → ChipAt T.C_Chip H' r F (Cs.new (b.getD 0) (p.getD 0) (m.getD 0) l) → Q .non H') ∧
  ((chipGood b p m = false ∨ endF (b.getD 0) is (List.replicate (b.getD 0).toNat .non) = none) → ∀ H', Off [r] H H' → E (.ref T.C_NoChip) none H')
theorem ok_Chip_init (T : Txt K mg) : FO P w K mg base 4 T.a_Chip_init T.fd_Chip_init ["self", "blocks", "pages", "most", "ills"] (spCInit T) := by
  have sc := sc_Chip_init
  refine T.F_Chip_init.okX sc (fun vs H Q E h => ?_) (fun cdv A outer s H vs Q E hr h => ?_)
  · obtain ⟨_, _, _, _, _, _, _, _, _, _, rfl, _⟩ := h
    rfl
  · obtain ⟨r, dx, vb, vp, vm, vi, b, p, m, is, rfl, hR, nb, np, nm, hi, q1, q2⟩ := h
    refine ⟨_, (pss_cons (ps_if (PW.pt (pw_or (pt_not (pt_truth (pe_callS (ok_is_within T) (hr.mono (by decide)) (by rfl) T.g_is_within T.k_is_within T.bd_is_within (passAt (takes_of rfl rfl rfl rfl)) (pa_cons (pv 1) (pa_cons pe_int (pa_cons (pe_glob rfl T.g_MANY T.r_MANY) pa_nil)))) (by intro _; rfl))) (pw_or (pt_not (pt_truth (pe_callS (ok_is_within T) (hr.mono (by decide)) (by rfl) T.g_is_within T.k_is_within T.bd_is_within (passAt (takes_of rfl rfl rfl rfl)) (pa_cons (pv 2) (pa_cons pe_int (pa_cons (pe_glob rfl T.g_MANY T.r_MANY) pa_nil)))) (by intro _; rfl))) (pw_or1 (pt_not (pt_truth (pe_callS (ok_is_within T) (hr.mono (by decide)) (by rfl) T.g_is_within T.k_is_within T.bd_is_within (passAt (takes_of rfl rfl rfl rfl)) (pa_cons (pv 3) (pa_cons pe_int (pa_cons (pe_glob rfl T.g_MOST T.r_MOST) pa_nil)))) (by intro _; rfl))))))) (pss_one (ps_raiseK rfl (takes_of rfl rfl rfl rfl) (pmk_ownK T.xc_NoChip T.g_NoChip rfl))) pss_nil)
      (pss_cons (ps_fld (pv 0) (pv 1) rfl)
      (pss_cons (ps_fld (pv 0) (pv 2) rfl)
      (pss_cons (ps_fld (pv 0) (pv 3) rfl)
      (pss_cons (ps_fld (pv 0) (pe_callS (ok_endurance T) (hr.mono (by decide)) (by rfl) T.g_endurance T.k_endurance T.bd_endurance (passAt (takes_of rfl rfl rfl rfl)) (pa_cons (pv 1) (pa_cons (pv 4) pa_nil))) rfl)
      (pss_cons (ps_fld (pv 0) (pe_op op_uMul (pe_lst (pa_cons pe_non pa_nil)) (pe_op op_uMul (pv 1) (pv 2))) rfl)
      (pss_cons (ps_fld (pv 0) (pe_op op_uMul (pe_lst (pa_cons pe_int pa_nil)) (pv 1)) rfl)
      (pss_cons (ps_fld (pv 0) (pe_op op_uMul (pe_lst (pa_cons pe_int pa_nil)) (pv 1)) rfl)
      (pss_cons (ps_fld (pv 0) (pe_op op_uMul (pe_lst (pa_cons pe_bl pa_nil)) (pv 1)) rfl)
      (pss_cons (ps_fld (pv 0) pe_non rfl)
      (pss_one (ps_fld (pv 0) (pe_lst pa_nil) rfl)))))))))))), ?_⟩
    walk_at "begin"
    walk_at "if"
    refine x_wNum nb ?_
    walk_at "go"
    refine x_iteB (fun hb => ?_) (fun hb => ?_)
    rotate_left
    · walk_at "go"
      exact q2 (.inl (by unfold chipGood; rw [hb]; rfl)) H Off.refl
    obtain ⟨b, rfl, rfl, hb1, hb2⟩ := nb.of_inB hb
    walk_at "go"
    refine x_wNum np ?_
    walk_at "go"
    refine x_iteB (fun hp => ?_) (fun hp => ?_)
    rotate_left
    · walk_at "go"
      exact q2 (.inl (by unfold chipGood; rw [hb, hp]; rfl)) H Off.refl
    obtain ⟨p, rfl, rfl, hp1, hp2⟩ := np.of_inB hp
    walk_at "go"
    refine x_wNum nm ?_
    walk_at "go"
    refine x_iteB (fun hm => ?_) (fun hm => ?_)
    rotate_left
    · walk_at "go"
      exact q2 (.inl (by unfold chipGood; rw [hb, hp, hm]; rfl)) H Off.refl
    obtain ⟨m, rfl, rfl, hm1, hm2⟩ := nm.of_inB hm
    have hgood : chipGood (some b) (some p) (some m) = true := by unfold chipGood; rw [hb, hp, hm]; rfl
    dsimp only [Option.getD_some] at q1 q2
    walk_at "go"
    rename_i H1 hO1 hI1 H2 hO2 hI2 H3 hO3 hI3
    have hO : Off [r] H H3 := (hO1.trans hO2).trans hO3
    have hi3 : IllsAt H3 vi is := by
      rcases hi with h | ⟨q, vs, e, hq, hl, hall⟩
      · exact .inl h
      · refine .inr ⟨q, vs, e, hq.imp (fun z => hO.lst hR z) (fun z => hO.tup hR z), hl, fun i x y h1 h2 => ?_⟩
        obtain ⟨t, vb, vg, e, ht, r⟩ := hall i x y h1 h2
        exact ⟨t, vb, vg, e, hO.tup hR ht, r⟩
    refine x_endu hi3 (fun l hl la H4 hs4 hla hlal => ?_) (fun hl H4 hs4 => q2 (.inr hl) H4 (hO.trans (Off.of hs4))) ⟨hb1, hb2⟩
    have hbp0 : 0 ≤ b * p := Int.mul_nonneg (by omega) (by omega)
    have hbp : b * p ≤ 16 * 16 := Int.mul_le_mul hb2 hp2 (by omega) (by decide)
    clear hO
    walk_at "go"
    rename_i H5 hO5 hI5 x1 G1 hx1 sx1 nx1 x2 G2 hx2 sx2 nx2 H6 hO6 hI6 y1 G3 hy1 sy1 ny1 y2 G4 hy2 sy2 ny2 H7 hO7 hI7 z1 G5 hz1 sz1 nz1 z2 G6 hz2 sz2 nz2 H8 hO8 hI8 w1 G7 hw1 sw1 nw1 w2 G8 hw2 sw2 nw2 H9 hO9 hI9 H10 hO10 hI10 u1 G9 hu1 su1 nu1 H11 hO11 hI11
    have d1 : r ≠ la := by walk_at "nn"
    have d2 : r ≠ x2 := by walk_at "nn"
    have d3 : la ≠ x2 := by walk_at "nn"
    have d4 : r ≠ y2 := by walk_at "nn"
    have d5 : la ≠ y2 := by walk_at "nn"
    have d6 : x2 ≠ y2 := by walk_at "nn"
    have d7 : r ≠ z2 := by walk_at "nn"
    have d8 : la ≠ z2 := by walk_at "nn"
    have d9 : x2 ≠ z2 := by walk_at "nn"
    have d10 : y2 ≠ z2 := by walk_at "nn"
    have d11 : r ≠ w2 := by walk_at "nn"
    have d12 : la ≠ w2 := by walk_at "nn"
    have d13 : x2 ≠ w2 := by walk_at "nn"
    have d14 : y2 ≠ w2 := by walk_at "nn"
    have d15 : z2 ≠ w2 := by walk_at "nn"
    have d16 : r ≠ u1 := by walk_at "nn"
    have d17 : la ≠ u1 := by walk_at "nn"
    have d18 : x2 ≠ u1 := by walk_at "nn"
    have d19 : y2 ≠ u1 := by walk_at "nn"
    have d20 : z2 ≠ u1 := by walk_at "nn"
    have d21 : w2 ≠ u1 := by walk_at "nn"
    have f1 : H11 la = some (.lst l) := by walk_at "hp"
    have f2 : H11 x2 = some (.lst (List.replicate (b * p).toNat .non)) := by walk_at "hp"
    have f3 : H11 y2 = some (.lst (List.replicate b.toNat (.int 0))) := by walk_at "hp"
    have f4 : H11 z2 = some (.lst (List.replicate b.toNat (.int 0))) := by walk_at "hp"
    have f5 : H11 w2 = some (.lst (List.replicate b.toNat (.bl false))) := by walk_at "hp"
    have f6 : H11 u1 = some (.lst []) := by walk_at "hp"
    have k1 : H la = none := by
      refine off_none (H1 := H3) ?_ hla d1.symm
      walk_at "off"
    have k2 : H x2 = none := by
      refine off_none (H1 := G1) ?_ hx2 d2.symm
      walk_at "off"
    have k3 : H y2 = none := by
      refine off_none (H1 := G3) ?_ hy2 d4.symm
      walk_at "off"
    have k4 : H z2 = none := by
      refine off_none (H1 := G5) ?_ hz2 d7.symm
      walk_at "off"
    have k5 : H w2 = none := by
      refine off_none (H1 := G7) ?_ hw2 d11.symm
      walk_at "off"
    have k6 : H u1 = none := by
      refine off_none (H1 := H10) ?_ hu1 d16.symm
      walk_at "off"
    have hoff : Off [r] H H11 := by walk_at "off"
    obtain ⟨e1, e2⟩ := endF_len hl (fun x hx => .inl (List.eq_of_mem_replicate hx))
    rw [List.length_replicate] at e1
    refine q1 hgood l hl ⟨dx, la, x2, y2, z2, w2, u1⟩ H11 hoff (fun a ha hne => ?_) ⟨hI11, f1, f2, ?_, ?_, ?_, ⟨[], f6, rfl, fun i v e h => by simp at h⟩, ?_, ⟨⟨hb1, hb2⟩, ⟨hp1, hp2⟩, ⟨hm1, hm2⟩, ?_, ?_, ?_, ?_, ?_, e2⟩⟩
    · unfold CF.all at ha
      simp only [List.mem_cons, List.not_mem_nil, or_false] at ha
      rcases ha with rfl | rfl | rfl | rfl | rfl | rfl | rfl
      · exact absurd rfl hne
      · exact k1
      · exact k2
      · exact k3
      · exact k4
      · exact k5
      · exact k6
    · show H11 y2 = some (.lst ((List.replicate _ _).map V.int))
      rw [List.map_replicate]
      exact f3
    · show H11 z2 = some (.lst ((List.replicate _ _).map V.int))
      rw [List.map_replicate]
      exact f4
    · show H11 w2 = some (.lst ((List.replicate _ _).map V.bl))
      rw [List.map_replicate]
      exact f5
    · show [r, la, x2, y2, z2, w2, u1].Nodup
      simp only [List.nodup_cons, List.mem_cons, List.not_mem_nil, or_false, not_or, not_false_eq_true, List.nodup_nil, and_true]
      exact ⟨⟨d1, d2, d4, d7, d11, d16⟩, ⟨d3, d5, d8, d12, d17⟩, ⟨d6, d9, d13, d18⟩, ⟨d10, d14, d19⟩, ⟨d15, d20⟩, d21⟩
    · show (l.length : Int) = b
      omega
    · show ((List.replicate _ _).length : Int) = b * p
      rw [List.length_replicate]
      omega
    · show ((List.replicate _ _).length : Int) = b
      rw [List.length_replicate]
      omega
    · show ((List.replicate _ _).length : Int) = b
      rw [List.length_replicate]
      omega
    · show ((List.replicate _ _).length : Int) = b
      rw [List.length_replicate]
      omega
theorem ChipAt.there {C : Addr} {H : Hp} {r : Addr} {F : CF} {c : Cs} (h : ChipAt C H r F c) : ∀ a ∈ F.all r, ∃ o, H a = some o ∧ ∀ xs, o ≠ .tup xs := fun a ha => by
  obtain ⟨vs, e7, _⟩ := h.lg
  unfold CF.all at ha
  simp only [List.mem_cons, List.not_mem_nil, or_false] at ha
  rcases ha with rfl | rfl | rfl | rfl | rfl | rfl | rfl
  · exact ⟨_, h.obj, fun _ z => by cases z⟩
  · exact ⟨_, h.la, fun _ z => by cases z⟩
  · exact ⟨_, h.st, fun _ z => by cases z⟩
  · exact ⟨_, h.tr, fun _ z => by cases z⟩
  · exact ⟨_, h.cl, fun _ z => by cases z⟩
  · exact ⟨_, h.br, fun _ z => by cases z⟩
  · exact ⟨_, e7, fun _ z => by cases z⟩
theorem ChipAt.fresh {C : Addr} {H : Hp} {r : Addr} {F : CF} {c : Cs} (h : ChipAt C H r F c) {q : Addr} (hq : H q = none) : q ∉ F.all r := fun m => by
  obtain ⟨o, e, _⟩ := h.there q m
  rw [hq] at e; cases e
theorem tups_of {S : List Addr} {H H' : Hp} (h : ∀ a ∈ S, ∃ o, H a = some o ∧ ∀ xs, o ≠ .tup xs) (s : Off S H H') : TupS H H' := fun b ys e => s b _ (fun m => by
  obtain ⟨o, e2, n⟩ := h b m
  rw [e] at e2
  cases e2
  exact n _ rfl) e
theorem endF_nil {n : Int} {l : List V} : endF n [] l = some l := rfl
theorem x_cinit {T : Txt K mg} {H H1 : Hp} {Q : VK} {E : XK} {x dx : Addr} {b p : Int} (hB : 2 ≤ b ∧ b ≤ 16) (hP : 1 ≤ p ∧ p ≤ 16) (hx : H x = none) (hs : Same H H1) (hn : H1 x = some (.ins T.C_Chip dx []))
    (q : ∀ F H', Same H H' → (∀ a ∈ F.all x, H a = none) → ChipAt T.C_Chip H' x F (Cs.new b p 1000000 (List.replicate b.toNat .non)) → Q .non H') : spCInit T [.ref x, .int b, .int p, .int 1000000, .non] H1 Q E := by
  refine ⟨x, dx, _, _, _, _, some b, some p, some 1000000, [], rfl, hn, .int b, .int p, .int 1000000, .inl ⟨rfl, rfl⟩, fun hg l hl F H' hO hF hC => ?_, fun hno => ?_⟩
  · cases hl
    refine q F H' (Off.same1 hs hO hx) (fun a ha => ?_) hC
    by_cases e : a = x
    · rw [e]; exact hx
    · exact same_none hs (hF a ha e)
  · exfalso
    rcases hno with hno | hno
    · unfold chipGood inB at hno
      have e1 : decide (2 ≤ b ∧ b ≤ 16) = true := decide_eq_true hB
      have e2 : decide (1 ≤ p ∧ p ≤ 16) = true := decide_eq_true hP
      dsimp only at hno
      rw [e1, e2] at hno
      cases hno
    · cases hno

/-! ### reading, and what is told of a block -/
def spRead (T : Txt K mg) : Sp := fun vs H Q E => ∃ (r : Addr) (F : CF) (c : Cs) (vp : V) (o : Option Int), vs = [.ref r, vp] ∧ ChipAt T.C_Chip H r F c ∧ Num vp o ∧ (inB o 0 (c.b * c.p - 1) = false → E (.ref T.C_NoPlace) none H) ∧
  (inB o 0 (c.b * c.p - 1) = true → c.dark = true → E (.ref T.C_PowerGone) none H) ∧ (inB o 0 (c.b * c.p - 1) = true → c.dark = false → Q (c.stuff.getD (o.getD 0).toNat .non) H)
theorem ok_Chip_read (T : Txt K mg) : FO P w K mg base 4 T.a_Chip_read T.fd_Chip_read ["self", "page"] (spRead T) := by
  have sc := sc_Chip_read
  refine T.F_Chip_read.okX sc (fun vs H Q E h => ?_) (fun cdv A outer s H vs Q E hr h => ?_)
  · obtain ⟨_, _, _, _, _, rfl, _⟩ := h
    rfl
  · obtain ⟨r, F, c, vp, o, rfl, hC, hn, q1, q2, q3⟩ := h
    refine ⟨_, (pss_cons (ps_expr (pe_methD (k := 3) (pv 0) (hr.mono (by decide)) (passAt (takes_of rfl rfl rfl rfl)) (pa_cons (pv 1) pa_nil)))
      (pss_cons (ps_expr (pe_methD0 (k := 2) (pv 0) (hr.mono (by decide)) (passAt (takes_of rfl rfl rfl rfl))))
      (pss_one (ps_ret (pe_ix ix_seq (pe_fld (pv 0) rfl) (pv 1) (fun _ _ => rfl)))))), ?_⟩
    walk_at "begin"
    walk_at "go"
    refine x_mPage hC ?_
    walk_at "go"
    refine x_page hC hn (fun hin => ?_) (fun hin => q1 hin)
    have q2' := q2 hin
    have q3' := q3 hin
    obtain ⟨n, rfl, rfl, h0, h1⟩ := hn.of_inB hin
    walk_at "go"
    refine x_mPower hC (fun hd => ?_) (fun hd => q2' hd)
    have ho := hC.obj
    unfold chipF at ho
    have hst := hC.st
    have z4 := hC.sz.stuff
    walk_at "go"
    exact q3' hd
theorem x_mRead {T : Txt K mg} {H : Hp} {Q : VK} {E : XK} {σ : L2.St} {r : Addr} {F : CF} {c : Cs} {t : TA} (hC : ChipAt T.C_Chip H r F c) (h : t σ H fun vs H2 => spRead T (.ref r :: vs) H2 Q E) : mtK P w K mg base (L2.CX P w) 4 "read" E σ t Q (.ref r) H :=
  x_mtK hC.obj ⟨⟨_, _, _, T.cl_Chip, T.m_Chip_read, ok_Chip_read T, T.bd_Chip_read⟩⟩ rfl h
/-- reading a page that is there, with power -/
theorem x_read {T : Txt K mg} {H : Hp} {Q : VK} {E : XK} {r : Addr} {F : CF} {c : Cs} {n : Int} (hC : ChipAt T.C_Chip H r F c) (hd : c.dark = false) (q : Q (c.stuff.getD n.toNat .non) H) (h : 0 ≤ n ∧ n < c.b * c.p) : spRead T [.ref r, .int n] H Q E :=
  ⟨r, F, c, _, some n, rfl, hC, .int n, (fun z => by simp [inB] at z; omega), (fun _ z => by rw [hd] at z; cases z), fun _ _ => q⟩

def spCleared (T : Txt K mg) : Sp := fun vs H Q E => ∃ (r : Addr) (F : CF) (c : Cs) (vp : V) (o : Option Int), vs = [.ref r, vp] ∧ ChipAt T.C_Chip H r F c ∧ Num vp o ∧ (inB o 0 (c.b - 1) = false → E (.ref T.C_NoPlace) none H) ∧
  (inB o 0 (c.b - 1) = true → Q (.int (c.clr.getD (o.getD 0).toNat 0)) H)
theorem ok_Chip_cleared (T : Txt K mg) : FO P w K mg base 4 T.a_Chip_cleared T.fd_Chip_cleared ["self", "block"] (spCleared T) := by
  have sc := sc_Chip_cleared
  refine T.F_Chip_cleared.okX sc (fun vs H Q E h => ?_) (fun cdv A outer s H vs Q E hr h => ?_)
  · obtain ⟨_, _, _, _, _, rfl, _⟩ := h
    rfl
  · obtain ⟨r, F, c, vp, o, rfl, hC, hn, q1, q3⟩ := h
    refine ⟨_, (pss_cons (ps_expr (pe_methD (k := 3) (pv 0) (hr.mono (by decide)) (passAt (takes_of rfl rfl rfl rfl)) (pa_cons (pv 1) pa_nil)))
      (pss_one (ps_ret (pe_ix ix_seq (pe_fld (pv 0) rfl) (pv 1) (fun _ _ => rfl))))), ?_⟩
    walk_at "begin"
    walk_at "go"
    refine x_mBlock hC ?_
    walk_at "go"
    refine x_block hC hn (fun hin => ?_) (fun hin => q1 hin)
    have q3' := q3 hin
    obtain ⟨n, rfl, rfl, h0, h1⟩ := hn.of_inB hin
    have ho := hC.obj
    unfold chipF at ho
    have hcl := hC.cl
    have z4 := hC.sz.clr
    walk_at "go"
    exact q3'
theorem x_mCleared {T : Txt K mg} {H : Hp} {Q : VK} {E : XK} {σ : L2.St} {r : Addr} {F : CF} {c : Cs} {t : TA} (hC : ChipAt T.C_Chip H r F c) (h : t σ H fun vs H2 => spCleared T (.ref r :: vs) H2 Q E) : mtK P w K mg base (L2.CX P w) 4 "cleared" E σ t Q (.ref r) H :=
  x_mtK hC.obj ⟨⟨_, _, _, T.cl_Chip, T.m_Chip_cleared, ok_Chip_cleared T, T.bd_Chip_cleared⟩⟩ rfl h
theorem x_cleared {T : Txt K mg} {H : Hp} {Q : VK} {E : XK} {r : Addr} {F : CF} {c : Cs} {n : Int} (hC : ChipAt T.C_Chip H r F c) (q : Q (.int (c.clr.getD n.toNat 0)) H) (h : 0 ≤ n ∧ n < c.b) : spCleared T [.ref r, .int n] H Q E :=
  ⟨r, F, c, _, some n, rfl, hC, .int n, (fun z => by simp [inB] at z; omega), fun _ => q⟩

def spFailed (T : Txt K mg) : Sp := fun vs H Q E => ∃ (r : Addr) (F : CF) (c : Cs) (vp : V) (o : Option Int), vs = [.ref r, vp] ∧ ChipAt T.C_Chip H r F c ∧ Num vp o ∧ (inB o 0 (c.b - 1) = false → E (.ref T.C_NoPlace) none H) ∧
  (inB o 0 (c.b - 1) = true → Q (.bl (c.broken.getD (o.getD 0).toNat false)) H)
theorem ok_Chip_failed (T : Txt K mg) : FO P w K mg base 4 T.a_Chip_failed T.fd_Chip_failed ["self", "block"] (spFailed T) := by
  have sc := sc_Chip_failed
  refine T.F_Chip_failed.okX sc (fun vs H Q E h => ?_) (fun cdv A outer s H vs Q E hr h => ?_)
  · obtain ⟨_, _, _, _, _, rfl, _⟩ := h
    rfl
  · obtain ⟨r, F, c, vp, o, rfl, hC, hn, q1, q3⟩ := h
    refine ⟨_, (pss_cons (ps_expr (pe_methD (k := 3) (pv 0) (hr.mono (by decide)) (passAt (takes_of rfl rfl rfl rfl)) (pa_cons (pv 1) pa_nil)))
      (pss_one (ps_ret (pe_ix ix_seq (pe_fld (pv 0) rfl) (pv 1) (fun _ _ => rfl))))), ?_⟩
    walk_at "begin"
    walk_at "go"
    refine x_mBlock hC ?_
    walk_at "go"
    refine x_block hC hn (fun hin => ?_) (fun hin => q1 hin)
    have q3' := q3 hin
    obtain ⟨n, rfl, rfl, h0, h1⟩ := hn.of_inB hin
    have ho := hC.obj
    unfold chipF at ho
    have hcl := hC.br
    have z4 := hC.sz.broken
    walk_at "go"
    exact q3'
theorem x_mFailed {T : Txt K mg} {H : Hp} {Q : VK} {E : XK} {σ : L2.St} {r : Addr} {F : CF} {c : Cs} {t : TA} (hC : ChipAt T.C_Chip H r F c) (h : t σ H fun vs H2 => spFailed T (.ref r :: vs) H2 Q E) : mtK P w K mg base (L2.CX P w) 4 "failed" E σ t Q (.ref r) H :=
  x_mtK hC.obj ⟨⟨_, _, _, T.cl_Chip, T.m_Chip_failed, ok_Chip_failed T, T.bd_Chip_failed⟩⟩ rfl h
theorem x_failed {T : Txt K mg} {H : Hp} {Q : VK} {E : XK} {r : Addr} {F : CF} {c : Cs} {n : Int} (hC : ChipAt T.C_Chip H r F c) (q : Q (.bl (c.broken.getD n.toNat false)) H) (h : 0 ≤ n ∧ n < c.b) : spFailed T [.ref r, .int n] H Q E :=
  ⟨r, F, c, _, some n, rfl, hC, .int n, (fun z => by simp [inB] at z; omega), fun _ => q⟩

/-! ### wipe -/
/-- the pages of a block, put back to nothing: the first i of them -/
def blankN (l : List V) (s : Nat) : Nat → List V
  | 0 => l
  | i + 1 => (blankN l s i).set (s + i) .non
theorem blankN_len (l : List V) (s : Nat) : ∀ i, (blankN l s i).length = l.length
  | 0 => rfl
  | i + 1 => by
    show ((blankN l s i).set _ _).length = _
    rw [List.length_set, blankN_len l s i]
def Cs.wipeR (c : Cs) (o : Option Int) : Res × Cs :=
  if inB o 0 (c.b - 1) = false then (.place, c) else if c.dark = true then (.dark, c)
  else if c.broken.getD (o.getD 0).toNat false = true then (.failed (o.getD 0), c)
  else if c.well (o.getD 0).toNat (decide (c.clr.getD (o.getD 0).toNat 0 = c.m)) = true then (.ok, { c.said (o.getD 0).toNat true ("wipe", o.getD 0) with clr := c.clr.set (o.getD 0).toNat (c.clr.getD (o.getD 0).toNat 0 + 1), stuff := blankN c.stuff ((o.getD 0).toNat * c.p.toNat) c.p.toNat })
  else (.failed (o.getD 0), c.said (o.getD 0).toNat false ("wipe", o.getD 0))
def spWipe (T : Txt K mg) : Sp := fun vs H Q E => ∃ (r : Addr) (F : CF) (c : Cs) (vp : V) (o : Option Int), vs = [.ref r, vp] ∧ ChipAt T.C_Chip H r F c ∧ Num vp o ∧ c.log.length < 900000 ∧
  ∀ H', Off (F.all r) H H' → ChipAt T.C_Chip H' r F (c.wipeR o).2 → Fin T (c.wipeR o).1 (Q .non) E H'
theorem ok_Chip_wipe (T : Txt K mg) : FO P w K mg base 4 T.a_Chip_wipe T.fd_Chip_wipe ["self", "block"] (spWipe T) := by
  have sc := sc_Chip_wipe
  refine T.F_Chip_wipe.okX sc (fun vs H Q E h => ?_) (fun cdv A outer s H vs Q E hr h => ?_)
  · obtain ⟨_, _, _, _, _, rfl, _⟩ := h
    rfl
  · obtain ⟨r, F, c, vp, o, rfl, hC, hn, hll, q⟩ := h
    refine ⟨_, (pss_cons (ps_expr (pe_methD (k := 3) (pv 0) (hr.mono (by decide)) (passAt (takes_of rfl rfl rfl rfl)) (pa_cons (pv 1) pa_nil)))
      (pss_cons (ps_expr (pe_methD0 (k := 2) (pv 0) (hr.mono (by decide)) (passAt (takes_of rfl rfl rfl rfl))))
      (pss_cons (ps_expr (pe_methD (k := 3) (pv 0) (hr.mono (by decide)) (passAt (takes_of rfl rfl rfl rfl)) (pa_cons (pv 1) pa_nil)))
      (pss_cons (ps_set (i := 2) sc.nd rfl (by first | exact Or.inl rfl | exact Or.inr rfl) (pe_methD (k := 1) (pv 0) (hr.mono (by decide)) (passAt (takes_of rfl rfl rfl rfl)) (pa_cons (pv 1) (pa_cons (pe_cmpR (op_uEq hr.units) (pe_ix ix_seq (pe_fld (pv 0) rfl) (pv 1) (fun _ _ => rfl)) (pe_fld (pv 0) rfl) (nomark _)) pa_nil))))
      (pss_cons (ps_expr (pe_bm PySem.F.plainAttrs_list PySem.F.slot_list_append PySem.F.type_list_append mt_append (pe_fld (pv 0) rfl) (pa_cons (pe_tup (pa_cons pe_str (pa_cons (pv 1) (pa_cons (pv 2) pa_nil)))) pa_nil)))
      (pss_cons (ps_if (pt_not (pt_truth (pv 2) (by intro _; rfl))) (pss_one (ps_raiseK rfl (takes_of rfl rfl rfl rfl) (pmk_oex T.xi_BlockFailed.o T.xi_BlockFailed.i T.xi_BlockFailed.t (ok_BlockFailed_init T) (hr.mono (by decide)) T.bd_BlockFailed_init .nil passE0 rfl T.g_BlockFailed (pa_cons (pv 1) pa_nil)))) pss_nil)
      (pss_cons (ps_augS (pe_fld (pv 0) rfl) (pv 1) get_list pe_int ip_add set_list)
      (pss_one (ps_for (passes_of rfl) rfl (pi_range1 (by rfl) T.b_range (pa_cons (pe_fld (pv 0) rfl) pa_nil)) (pg_name (i := 3) sc.nd rfl (by first | exact Or.inl rfl | exact Or.inr rfl)) (pss_one (ps_asg pe_non (pg_sub (pe_fld (pv 0) rfl) (pe_op op_uAdd (pe_op op_uMul (pv 1) (pe_fld (pv 0) rfl)) (pv 3)) set_list)))))))))))), ?_⟩
    unfold Cs.wipeR at q
    have hsz := hC.sz
    obtain ⟨hb1, hb2⟩ := hsz.b
    obtain ⟨hp1, hp2⟩ := hsz.p
    walk_at "begin"
    walk_at "go"
    refine x_mBlock hC ?_
    walk_at "go"
    refine x_block hC hn (fun hin => ?_) (fun hin => ?_)
    rotate_left
    · rw [if_pos hin] at q
      exact q H Off.refl hC
    rw [if_neg (by rw [hin]; decide)] at q
    obtain ⟨n, rfl, rfl, h0, h1⟩ := hn.of_inB hin
    dsimp only [Option.getD_some] at q
    walk_at "go"
    refine x_mPower hC (fun hd => ?_) (fun hd => ?_)
    rotate_left
    · rw [if_pos hd] at q
      exact q H Off.refl hC
    rw [if_neg (by rw [hd]; decide)] at q
    walk_at "go"
    refine x_mGoodB hC ?_
    walk_at "go"
    refine ⟨r, F, c, _, rfl, hC, h0, by omega, fun hg => ?_, fun hg d H1 hs hd1 hx => ?_⟩
    rotate_left
    · rw [if_pos hg] at q
      exact q H1 (Off.of hs) (hC.mono hs) d hx
    rw [if_neg (by rw [hg]; decide)] at q
    have ho := hC.obj
    unfold chipF at ho
    have hcl := hC.cl
    have z4 := hsz.clr
    walk_at "go"
    refine x_mGoes hC ?_
    walk_at "go"
    refine ⟨r, F, c, n, decide (c.clr.getD n.toNat 0 = c.m), rfl, hC, h0, by omega, fun H1 hO1 hC1 => ?_⟩
    obtain ⟨⟨n1, n2, n3, n4, n5, n6⟩, ⟨n7, n8, n9, n10, n11⟩, ⟨n12, n13, n14, n15⟩, ⟨n16, n17, n18⟩, ⟨n19, n20⟩, n21⟩ := hC.ne
    have hsz1 := hsz.said n.toNat (c.well n.toNat (decide (c.clr.getD n.toNat 0 = c.m))) ("wipe", n)
    have hlog := hC1.lg
    have o1' := hC1.obj
    have a1 := hC1.la
    have a2 := hC1.st
    have a3 := hC1.tr
    have a4 := hC1.cl
    have a5 := hC1.br
    obtain ⟨lvs, hlg, hla⟩ := hlog
    have hlv : lvs.length < sizeLine := Nat.lt_of_lt_of_le (m := 900000) (by rw [hla.1]; exact hll) (by decide)
    have hla1 : LogAll H1 lvs c.log := hla
    obtain ⟨w, hw⟩ : ∃ w, c.well n.toNat (decide (c.clr.getD n.toNat 0 = c.m)) = w := ⟨_, rfl⟩
    have qT : w = true → ∀ H', Off (F.all r) H H' → ChipAt T.C_Chip H' r F { c.said n.toNat true ("wipe", n) with clr := c.clr.set n.toNat (c.clr.getD n.toNat 0 + 1), stuff := blankN c.stuff (n.toNat * c.p.toNat) c.p.toNat } → Q .non H' := fun h => by
      rw [if_pos (hw.trans h)] at q
      exact q
    have qF : w = false → ∀ H', Off (F.all r) H H' → ChipAt T.C_Chip H' r F (c.said n.toNat false ("wipe", n)) → ∀ d, H' d = some (.xd [("block", .int n)]) → E (.ref T.C_BlockFailed) (some d) H' := fun h => by
      rw [if_neg (by rw [hw, h]; decide)] at q
      exact q
    clear q
    rw [hw] at o1' a1 a2 a3 a4 a5 hsz1 hC1 ⊢
    have o1 := o1'
    unfold chipF at o1
    have hoff1 := hO1
    have hO1 := hoff1
    clear hO1
    walk_at "go"
    rename_i qt H2 hqt hs2 hn2 H3 hO3 hI3
    have f1 : H3 r = some (.ins T.C_Chip F.dx (chipF F (c.tick n.toNat w))) := by walk_at "hp"
    have f2 : H3 F.la = some (.lst c.lasts) := by walk_at "hp"
    have f3 : H3 F.st = some (.lst c.stuff) := by walk_at "hp"
    have f4 : H3 F.cl = some (.lst (c.clr.map V.int)) := by walk_at "hp"
    have f6 : H3 F.tr = some (.lst ((c.tick n.toNat w).tried.map V.int)) := by walk_at "hp"
    have f7 : H3 F.br = some (.lst ((c.tick n.toNat w).broken.map V.bl)) := by walk_at "hp"
    have hoff13 : Off (F.all r) H1 H3 := by unfold CF.all; walk_at "off"
    have hoff3 := hoff1.trans hoff13
    have hq3 : H3 qt = some (.tup [.str "wipe", .int n, .bl w]) := hO3.at hn2 (nin_of (ne_of_none hlg hqt).symm)
    have hla3 : LogAll H3 (lvs ++ [.ref qt]) (c.log ++ [(("wipe" : Str), n, w)]) := ((hla1.mono (hC1.tups hoff13))).snoc ⟨qt, rfl, hq3⟩
    have hC3 : ChipAt T.C_Chip H3 r F (c.said n.toNat w ("wipe", n)) := ⟨f1, f2, f3, f6, f4, f7, ⟨_, hI3, hla3⟩, hC.nd, hsz1⟩
    refine x_join (fun σ' H' => σ' = [some (.ref r), some (.int n), some (.bl w), none] ∧ H' = H3 ∧ w = true) (fun R hR => ?_) ?_
    · walk_at "go"
      refine x_iteB (fun h => ?_) (fun h => ?_)
      · walk_at "go"
        exact hR _ _ ⟨rfl, rfl, h⟩
      · subst h
        walk_at "go"
        refine x_moK ⟨n, rfl, h0, by omega⟩ (fun d H4 hd hs hx => ?_) T.xi_BlockFailed.o T.nx_BlockFailed_block
        exact qF rfl H4 (hoff3.trans (Off.of hs)) (hC3.mono hs) d hx
    intro σ' H' ⟨hσ, hH, hwt⟩
    subst hσ hH hwt
    have f1' := f1
    unfold chipF at f1
    have hC3' := hC3
    clear hoff13
    walk_at "go"
    rename_i HC hOC hIC
    have e1 : HC r = some (.ins T.C_Chip F.dx (chipF F (c.tick n.toNat true))) := by unfold chipF; walk_at "hp"
    have e2 : HC F.la = some (.lst c.lasts) := by walk_at "hp"
    have e3 : HC F.st = some (.lst c.stuff) := by walk_at "hp"
    have e6 : HC F.tr = some (.lst ((c.tick n.toNat true).tried.map V.int)) := by walk_at "hp"
    have e7 : HC F.br = some (.lst ((c.tick n.toNat true).broken.map V.bl)) := by walk_at "hp"
    have e8 : HC F.lg = some (.lst (lvs ++ [.ref qt])) := by walk_at "hp"
    have e4 : HC F.cl = some (.lst ((c.clr.set n.toNat (c.clr.getD n.toNat 0 + 1)).map V.int)) := by
      rw [List.map_set]
      exact hIC
    have hoff3C : Off (F.all r) H' HC := by unfold CF.all; walk_at "off"
    have z5 := hsz.stuff
    rw [show (c.tick n.toNat true).p = c.p from rfl]
    refine x_frR1 (by omega) (fun i σ H4 => ∃ (v3 : Option V), σ = [some (.ref r), some (.int n), some (.bl true), v3] ∧ Off [F.st] HC H4 ∧ H4 F.st = some (.lst (blankN c.stuff (n.toNat * c.p.toNat) i)))
      ⟨_, rfl, Off.refl, e3⟩ ?_ ?_
    · intro i σ H4 hi ⟨v3, hσ, hO4, hI4⟩
      subst hσ
      have g1 : H4 r = some (.ins T.C_Chip F.dx (chipF F (c.tick n.toNat true))) := by walk_at "hp"
      unfold chipF at g1
      rw [show (c.tick n.toNat true).p = c.p from rfl] at g1
      have hnp : n * c.p ≤ (c.b - 1) * c.p := Int.mul_le_mul_of_nonneg_right h1 (by omega)
      have hnp0 : 0 ≤ n * c.p := Int.mul_nonneg h0 (by omega)
      have hbp : c.b * c.p = (c.b - 1) * c.p + c.p := by rw [Int.sub_mul, Int.one_mul]; omega
      have hbl : ((blankN c.stuff (n.toNat * c.p.toNat) i).length : Int) = c.b * c.p := by rw [blankN_len]; exact z5
      have en : (n * c.p + (0 + (i : Int))).toNat = n.toNat * c.p.toNat + i := by
        obtain ⟨a, rfl⟩ := Int.eq_ofNat_of_zero_le h0
        obtain ⟨b, hb⟩ := Int.eq_ofNat_of_zero_le (show 0 ≤ c.p by omega)
        rw [hb]
        simp only [Int.toNat_natCast]
        rw [Int.zero_add, ← Int.natCast_mul, ← Int.natCast_add, Int.toNat_natCast]
      walk_at "go"
      rename_i H5 hO5 hI5
      refine ⟨_, rfl, hO4.trans hO5, ?_⟩
      rw [en] at hI5
      exact hI5
    · intro σ H4 ⟨v3, hσ, hO4, hI4⟩
      subst hσ
      have g1 : H4 r = some (.ins T.C_Chip F.dx (chipF F (c.tick n.toNat true))) := by walk_at "hp"
      have g2 : H4 F.la = some (.lst c.lasts) := by walk_at "hp"
      have g4 : H4 F.cl = some (.lst ((c.clr.set n.toNat (c.clr.getD n.toNat 0 + 1)).map V.int)) := by walk_at "hp"
      have g6 : H4 F.tr = some (.lst ((c.tick n.toNat true).tried.map V.int)) := by walk_at "hp"
      have g7 : H4 F.br = some (.lst ((c.tick n.toNat true).broken.map V.bl)) := by walk_at "hp"
      have g8 : H4 F.lg = some (.lst (lvs ++ [.ref qt])) := by walk_at "hp"
      have hoffC4 : Off (F.all r) HC H4 := by unfold CF.all; exact Off.sub hO4 (by intro b hb; rw [List.mem_singleton] at hb; subst hb; simp)
      have hoff34 := hoff3C.trans hoffC4
      exact qT rfl H4 (hoff3.trans hoff34) ⟨g1, g2, hI4, g6, g4, g7, ⟨_, g8, hla3.mono (hC3'.tups hoff34)⟩, hC.nd, ⟨hsz1.b, hsz1.p, hsz1.m, hsz1.lasts, by show ((blankN _ _ _).length : Int) = _; rw [blankN_len]; exact hsz.stuff, hsz1.tried, by show ((c.clr.set _ _).length : Int) = _; rw [List.length_set]; exact hsz.clr, hsz1.broken, hsz1.lsc⟩⟩
theorem x_mWipe {T : Txt K mg} {H : Hp} {Q : VK} {E : XK} {σ : L2.St} {r : Addr} {F : CF} {c : Cs} {t : TA} (hC : ChipAt T.C_Chip H r F c) (h : t σ H fun vs H2 => spWipe T (.ref r :: vs) H2 Q E) : mtK P w K mg base (L2.CX P w) 4 "wipe" E σ t Q (.ref r) H :=
  x_mtK hC.obj ⟨⟨_, _, _, T.cl_Chip, T.m_Chip_wipe, ok_Chip_wipe T, T.bd_Chip_wipe⟩⟩ rfl h

/-! ### marks -/
def mk (st nm : Int) : Int := st * 128 + nm
theorem mk_or {st nm : Int} (h : 0 ≤ st) (h0 : 0 ≤ nm) (h1 : nm < 128) : Builtin.bitOr (st * 2 ^ (7 : Int).toNat) nm = mk st nm := by
  have e := Bits.bitOr_join' (a := nm) (b := st) (k := 7) h0 (by omega) h
  rw [show (7 : Int).toNat = 7 from rfl, e]
  unfold mk
  omega
theorem mk_and {x : Int} (h : 0 ≤ x) : Builtin.bitAnd x 127 = x % 128 := Bits.bitAnd_mask 7 h
def spMark : Sp := fun vs H Q _ => ∃ st nm : Int, vs = [.int st, .int nm] ∧ (0 ≤ st ∧ st < 10 ^ 45 ∧ 0 ≤ nm ∧ nm < 128) ∧ Q (.int (mk st nm)) H
theorem x_mark {H : Hp} {Q : VK} {E : XK} {st nm : Int} (q : Q (.int (mk st nm)) H) (h : 0 ≤ st ∧ st < 10 ^ 45 ∧ 0 ≤ nm ∧ nm < 128) : spMark [.int st, .int nm] H Q E := ⟨st, nm, rfl, h, q⟩
local macro_rules | `(tactic| walk_at "u") => `(tactic| ((with_reducible refine x_mark ?_ ?hs); (try (case hs => walk_at "side"))))
theorem ok_mark_of (T : Txt K mg) : FO P w K mg base 1 T.a_mark_of T.fd_mark_of ["stamp", "name"] spMark := by
  have sc := sc_mark_of
  refine T.F_mark_of.okX sc (fun vs H Q E h => ?_) (fun cdv A outer s H vs Q E hr h => ?_)
  · obtain ⟨_, _, rfl, _⟩ := h
    rfl
  · obtain ⟨st, nm, rfl, ⟨h1, h2, h3, h4⟩, q⟩ := h
    have hc : CShl st 7 := shl_ok (n := 200) (by
      have : (2:Nat) ^ 200 = 1606938044258990275541962092341162602522202993782792835301376 := by decide
      omega) (by decide)
    refine ⟨_, (pss_one (ps_ret (pe_op op_or (pe_op op_uShl (pv 0) pe_int) (pv 1)))), ?_⟩
    walk_at "begin"
    walk_at "go"
    rw [mk_or h1 h3 h4]
    exact q

/-! ### dicts from numbers to numbers -/
def kvI (ps : List (Int × Int)) : List (L2.Key × V) := ps.map fun e => (.inl e.1, .int e.2)
def getI (ps : List (Int × Int)) (n : Int) : Option Int := (ps.find? fun e => decide (e.1 = n)).map (·.2)
def putI (ps : List (Int × Int)) (n x : Int) : List (Int × Int) := if (ps.any fun e => decide (e.1 = n)) = true then ps.map (fun e => if e.1 = n then (e.1, x) else e) else ps ++ [(n, x)]
def dropI (ps : List (Int × Int)) (n : Int) : List (Int × Int) := ps.filter fun e => decide (e.1 ≠ n)
theorem keyI {m n : Int} : decide ((Sum.inl m : L2.Key) = .inl n) = decide (m = n) := by
  rw [decide_eq_decide]
  exact ⟨fun z => by injection z, fun z => by rw [z]⟩
theorem valV_I {n : Int} : ∀ {ps : List (Int × Int)}, valV (kvI ps) (.inl n) = (getI ps n).map V.int
  | [] => rfl
  | e :: ps => by
    by_cases h : e.1 = n
    · have e1 : valV (kvI (e :: ps)) (.inl n) = some (.int e.2) := valV_pos (p := ((Sum.inl e.1 : L2.Key), V.int e.2)) (by rw [h])
      rw [e1]
      unfold getI
      rw [List.find?_cons, decide_eq_true h]
      rfl
    · have e1 : valV (kvI (e :: ps)) (.inl n) = valV (kvI ps) (.inl n) := valV_neg (p := ((Sum.inl e.1 : L2.Key), V.int e.2)) (fun z => h (Sum.inl.inj z))
      rw [e1, valV_I]
      unfold getI
      rw [List.find?_cons, decide_eq_false h]
theorem putK_I {ps : List (Int × Int)} {n x : Int} : putK (kvI ps) (.inl n) (.int x) = kvI (putI ps n x) := by
  unfold putK putI
  have e : ((kvI ps).any fun kv => decide (kv.1 = .inl n)) = ps.any fun e => decide (e.1 = n) := by
    unfold kvI
    rw [List.any_map]
    exact congrArg (ps.any ·) (funext fun e => keyI)
  rw [e]
  split
  · unfold kvI
    rw [List.map_map, List.map_map]
    refine List.map_congr_left fun e _ => ?_
    show (if (Sum.inl e.1 : L2.Key) = .inl n then _ else _) = _
    by_cases h : e.1 = n
    · rw [if_pos (by rw [h])]
      simp [h]
    · rw [if_neg (fun z => h (by injection z))]
      simp [h]
  · unfold kvI
    rw [List.map_append]
    rfl
theorem dropK_I {ps : List (Int × Int)} {n : Int} : dropK (kvI ps) (.inl n) = kvI (dropI ps n) := by
  unfold dropK dropI kvI
  rw [List.filter_map]
  refine congrArg _ (List.filter_congr fun e _ => ?_)
  show decide ((Sum.inl e.1 : L2.Key) ≠ .inl n) = decide (e.1 ≠ n)
  rw [decide_eq_decide]
  exact ⟨fun z y => z (by rw [y]), fun z y => z (by injection y)⟩
theorem kvI_len {ps : List (Int × Int)} : (kvI ps).length = ps.length := List.length_map _
theorem getI_mem {ps : List (Int × Int)} {n x : Int} (h : getI ps n = some x) : (n, x) ∈ ps := by
  unfold getI at h
  cases hf : ps.find? (fun e => decide (e.1 = n)) with
  | none => rw [hf] at h; simp at h
  | some e =>
    rw [hf] at h
    simp at h
    have h1 := List.mem_of_find?_eq_some hf
    have h2 : e.1 = n := by simpa using List.find?_some hf
    rw [← h2, ← h]
    exact h1
/-! ### the book -/
structure Bk where
  b : Int
  p : Int
  wh : List (Int × Int)
  nm : List V
  live : List Int
  fil : List Int
  born : List Int
  stamp : Int
structure BF where
  dx : Addr
  wh : Addr
  nm : Addr
  lv : Addr
  fl : Addr
  bn : Addr
def bookF (F : BF) (k : Bk) : List (Str × V) := [("blocks", .int k.b), ("pages", .int k.p), ("where", .ref F.wh), ("names", .ref F.nm), ("live", .ref F.lv), ("filled", .ref F.fl), ("born", .ref F.bn), ("stamp", .int k.stamp)]
def BF.all (F : BF) (r : Addr) : List Addr := [r, F.wh, F.nm, F.lv, F.fl, F.bn]
/-- what a book is like -/
structure BkOk (k : Bk) : Prop where
  b : 2 ≤ k.b ∧ k.b ≤ 16
  p : 1 ≤ k.p ∧ k.p ≤ 16
  nm : (k.nm.length : Int) = k.b * k.p
  live : (k.live.length : Int) = k.b
  fil : (k.fil.length : Int) = k.b
  born : (k.born.length : Int) = k.b
  wh : ∀ e ∈ k.wh, 0 ≤ e.2 ∧ e.2 < k.b * k.p
  whl : k.wh.length ≤ 900
  st : 0 ≤ k.stamp ∧ k.stamp < 10 ^ 40
structure BookAt (C : Addr) (H : Hp) (r : Addr) (F : BF) (k : Bk) : Prop where
  obj : H r = some (.ins C F.dx (bookF F k))
  wh : H F.wh = some (.dK (kvI k.wh))
  nm : H F.nm = some (.lst k.nm)
  lv : H F.lv = some (.lst (k.live.map V.int))
  fl : H F.fl = some (.lst (k.fil.map V.int))
  bn : H F.bn = some (.lst (k.born.map V.int))
  nd : (BF.all F r).Nodup
theorem BookAt.mono {C : Addr} {H H' : Hp} {r : Addr} {F : BF} {k : Bk} (s : Same H H') (h : BookAt C H r F k) : BookAt C H' r F k := ⟨s _ _ h.obj, s _ _ h.wh, s _ _ h.nm, s _ _ h.lv, s _ _ h.fl, s _ _ h.bn, h.nd⟩
theorem BookAt.off {C : Addr} {H H' : Hp} {r : Addr} {F : BF} {k : Bk} {S : List Addr} (h : BookAt C H r F k) (s : Off S H H') (n : ∀ a, a ∈ F.all r → a ∉ S) : BookAt C H' r F k := by
  unfold BF.all at n
  exact ⟨s.at h.obj (n _ (by simp)), s.at h.wh (n _ (by simp)), s.at h.nm (n _ (by simp)), s.at h.lv (n _ (by simp)), s.at h.fl (n _ (by simp)), s.at h.bn (n _ (by simp)), h.nd⟩
theorem BookAt.ne {C : Addr} {H : Hp} {r : Addr} {F : BF} {k : Bk} (h : BookAt C H r F k) : (r ≠ F.wh ∧ r ≠ F.nm ∧ r ≠ F.lv ∧ r ≠ F.fl ∧ r ≠ F.bn) ∧ (F.wh ≠ F.nm ∧ F.wh ≠ F.lv ∧ F.wh ≠ F.fl ∧ F.wh ≠ F.bn) ∧ (F.nm ≠ F.lv ∧ F.nm ≠ F.fl ∧ F.nm ≠ F.bn) ∧ (F.lv ≠ F.fl ∧ F.lv ≠ F.bn) ∧ F.fl ≠ F.bn := by
  have d := h.nd
  unfold BF.all at d
  simp only [List.nodup_cons, List.mem_cons, List.not_mem_nil, or_false, not_or, not_false_eq_true, List.nodup_nil, and_true] at d
  exact d
theorem BookAt.there {C : Addr} {H : Hp} {r : Addr} {F : BF} {k : Bk} (h : BookAt C H r F k) : ∀ a ∈ F.all r, ∃ o, H a = some o ∧ ∀ xs, o ≠ .tup xs := fun a ha => by
  unfold BF.all at ha
  simp only [List.mem_cons, List.not_mem_nil, or_false] at ha
  rcases ha with rfl | rfl | rfl | rfl | rfl | rfl
  · exact ⟨_, h.obj, fun _ z => by cases z⟩
  · exact ⟨_, h.wh, fun _ z => by cases z⟩
  · exact ⟨_, h.nm, fun _ z => by cases z⟩
  · exact ⟨_, h.lv, fun _ z => by cases z⟩
  · exact ⟨_, h.fl, fun _ z => by cases z⟩
  · exact ⟨_, h.bn, fun _ z => by cases z⟩
theorem BookAt.fresh {C : Addr} {H : Hp} {r : Addr} {F : BF} {k : Bk} (h : BookAt C H r F k) {q : Addr} (hq : H q = none) : q ∉ F.all r := fun m => by
  obtain ⟨o, e, _⟩ := h.there q m
  rw [hq] at e
  cases e
def Bk.new (b p : Int) : Bk := { b, p, wh := [], nm := List.replicate (b * p).toNat .non, live := List.replicate b.toNat 0, fil := List.replicate b.toNat 0, born := List.replicate b.toNat 0, stamp := 1 }
theorem Bk.new_ok {b p : Int} (hb : 2 ≤ b ∧ b ≤ 16) (hp : 1 ≤ p ∧ p ≤ 16) : BkOk (Bk.new b p) := by
  have hbp : 0 ≤ b * p := Int.mul_nonneg (by omega) (by omega)
  refine ⟨hb, hp, ?_, ?_, ?_, ?_, (fun e h => by cases h), (by show 0 ≤ 900; decide), ⟨(by show (0:Int) ≤ 1; decide), (by show (1:Int) < 10 ^ 40; decide)⟩⟩
  · show ((List.replicate _ _).length : Int) = b * p
    rw [List.length_replicate]; omega
  · show ((List.replicate _ _).length : Int) = b
    rw [List.length_replicate]; omega
  · show ((List.replicate _ _).length : Int) = b
    rw [List.length_replicate]; omega
  · show ((List.replicate _ _).length : Int) = b
    rw [List.length_replicate]; omega

local macro_rules | `(tactic| walk_at "u") => `(tactic| ((with_reducible refine' x_appO ?ho ?_ ?hl); (case ho => walk_at "hp"); (try (case hl => walk_at "side")); intro H1 hO hI; (try dsimp only)))
def spBInit (T : Txt K mg) : Sp := fun vs H Q _ => ∃ (r dx : Addr) (b p : Int), vs = [.ref r, .int b, .int p] ∧ H r = some (.ins T.C_Book dx []) ∧ (2 ≤ b ∧ b ≤ 16) ∧ (1 ≤ p ∧ p ≤ 16) ∧
  ∀ F H', Off [r] H H' → (∀ a ∈ F.all r, a ≠ r → H a = none) → BookAt T.C_Book H' r F (Bk.new b p) → Q .non H'
theorem ok_Book_init (T : Txt K mg) : FO P w K mg base 1 T.a_Book_init T.fd_Book_init ["self", "blocks", "pages"] (spBInit T) := by
  have sc := sc_Book_init
  refine T.F_Book_init.okX sc (fun vs H Q E h => ?_) (fun cdv A outer s H vs Q E hr h => ?_)
  · obtain ⟨_, _, _, _, rfl, _⟩ := h
    rfl
  · obtain ⟨r, dx, b, p, rfl, hR, hb, hp, q⟩ := h
    refine ⟨_, (pss_cons (ps_fld (pv 0) (pv 1) rfl)
      (pss_cons (ps_fld (pv 0) (pv 2) rfl)
      (pss_cons (ps_fld (pv 0) pe_dnewK rfl)
      (pss_cons (ps_fld (pv 0) (pe_op op_uMul (pe_lst (pa_cons pe_non pa_nil)) (pe_op op_uMul (pv 1) (pv 2))) rfl)
      (pss_cons (ps_fld (pv 0) (pe_op op_uMul (pe_lst (pa_cons pe_int pa_nil)) (pv 1)) rfl)
      (pss_cons (ps_fld (pv 0) (pe_op op_uMul (pe_lst (pa_cons pe_int pa_nil)) (pv 1)) rfl)
      (pss_cons (ps_fld (pv 0) (pe_op op_uMul (pe_lst (pa_cons pe_int pa_nil)) (pv 1)) rfl)
      (pss_one (ps_fld (pv 0) pe_int rfl))))))))), ?_⟩
    have hBP0 : 0 ≤ b * p := Int.mul_nonneg (by omega) (by omega)
    have hBP : b * p ≤ 16 * 16 := Int.mul_le_mul hb.2 hp.2 (by omega) (by decide)
    walk_at "begin"
    walk_at "go"
    rename_i H1 hO1 hI1 H2 hO2 hI2 wh W1 hwh sw nw H3 hO3 hI3 x1 A1 hx1 sx1 nx1 nm A2 hnm snm nnm H4 hO4 hI4 y1 A3 hy1 sy1 ny1 lw A4 hlv slv nlv H5 hO5 hI5 z1 A5 hz1 sz1 nz1 fl A6 hfl sfl nfl H6 hO6 hI6 w1 A7 hw1 sw1 nw1 bn A8 hbn sbn nbn H7 hO7 hI7 H8 hO8 hI8
    have c1 : r ≠ wh := ne_of_none hI2 hwh
    have c2 : r ≠ nm := ne_of_none (sx1 _ _ hI3) hnm
    have c3 : r ≠ lw := ne_of_none (sy1 _ _ hI4) hlv
    have c4 : r ≠ fl := ne_of_none (sz1 _ _ hI5) hfl
    have c5 : r ≠ bn := ne_of_none (sw1 _ _ hI6) hbn
    have c6 : wh ≠ nm := by walk_at "nn"
    have c7 : wh ≠ lw := by walk_at "nn"
    have c8 : wh ≠ fl := by walk_at "nn"
    have c9 : wh ≠ bn := by walk_at "nn"
    have c10 : nm ≠ lw := by walk_at "nn"
    have c11 : nm ≠ fl := by walk_at "nn"
    have c12 : nm ≠ bn := by walk_at "nn"
    have c13 : lw ≠ fl := by walk_at "nn"
    have c14 : lw ≠ bn := by walk_at "nn"
    have c15 : fl ≠ bn := by walk_at "nn"
    have f1 : H8 wh = some (.dK []) := by walk_at "hp"
    have f2 : H8 nm = some (.lst (List.replicate (b * p).toNat .non)) := by walk_at "hp"
    have f3 : H8 lw = some (.lst (List.replicate b.toNat (.int 0))) := by walk_at "hp"
    have f4 : H8 fl = some (.lst (List.replicate b.toNat (.int 0))) := by walk_at "hp"
    have f5 : H8 bn = some (.lst (List.replicate b.toNat (.int 0))) := by walk_at "hp"
    have o1 : Off [r] H H2 := hO1.trans hO2
    have o3 : Off [r] H H3 := (o1.trans (Off.of sw)).trans hO3
    have o4 : Off [r] H H4 := (o3.trans (Off.of (sx1.trans snm))).trans hO4
    have o5 : Off [r] H H5 := (o4.trans (Off.of (sy1.trans slv))).trans hO5
    have o6 : Off [r] H H6 := (o5.trans (Off.of (sz1.trans sfl))).trans hO6
    have o8 : Off [r] H H8 := ((o6.trans (Off.of (sw1.trans sbn))).trans hO7).trans hO8
    refine q ⟨dx, wh, nm, lw, fl, bn⟩ H8 o8 (fun a ha hne => ?_) ⟨hI8, f1, f2, ?_, ?_, ?_, ?_⟩
    · unfold BF.all at ha
      simp only [List.mem_cons, List.not_mem_nil, or_false] at ha
      rcases ha with rfl | rfl | rfl | rfl | rfl | rfl
      · exact absurd rfl hne
      · exact off_none o1 hwh hne
      · exact off_none o3 (same_none sx1 hnm) hne
      · exact off_none o4 (same_none sy1 hlv) hne
      · exact off_none o5 (same_none sz1 hfl) hne
      · exact off_none o6 (same_none sw1 hbn) hne
    · show H8 lw = some (.lst ((List.replicate _ _).map V.int))
      rw [List.map_replicate]; exact f3
    · show H8 fl = some (.lst ((List.replicate _ _).map V.int))
      rw [List.map_replicate]; exact f4
    · show H8 bn = some (.lst ((List.replicate _ _).map V.int))
      rw [List.map_replicate]; exact f5
    · unfold BF.all
      simp only [List.nodup_cons, List.mem_cons, List.not_mem_nil, or_false, not_or, not_false_eq_true, List.nodup_nil, and_true]
      exact ⟨⟨c1, c2, c3, c4, c5⟩, ⟨c6, c7, c8, c9⟩, ⟨c10, c11, c12⟩, ⟨c13, c14⟩, c15⟩
def Bk.drop (k : Bk) (n : Int) : Bk := match getI k.wh n with
  | none => k
  | some x => { k with wh := dropI k.wh n, nm := k.nm.set x.toNat .non, live := k.live.set (x / k.p).toNat (k.live.getD (x / k.p).toNat 0 - 1) }
def spForget (T : Txt K mg) : Sp := fun vs H Q _ => ∃ (r : Addr) (F : BF) (k : Bk) (n : Int), vs = [.ref r, .int n] ∧ BookAt T.C_Book H r F k ∧ BkOk k ∧
  ∀ H', Off (F.all r) H H' → BookAt T.C_Book H' r F (k.drop n) → Q .non H'
theorem ok_Book_forget (T : Txt K mg) : FO P w K mg base 1 T.a_Book_forget T.fd_Book_forget ["self", "name"] (spForget T) := by
  have sc := sc_Book_forget
  refine T.F_Book_forget.okX sc (fun vs H Q E h => ?_) (fun cdv A outer s H vs Q E hr h => ?_)
  · obtain ⟨_, _, _, _, rfl, _⟩ := h
    rfl
  · obtain ⟨r, F, k, n, rfl, hB, hk, q⟩ := h
    refine ⟨_, (pss_one (ps_if (pt_cmp (pc_din (hu_of hr) (pv 1) (pe_fld (pv 0) rfl))) (pss_cons (ps_set (i := 2) sc.nd rfl (by first | exact Or.inl rfl | exact Or.inr rfl) (pe_dpop1 (pe_fld (pv 0) rfl) (pv 1) ⟨rfl, rfl, rfl, rfl⟩))
      (pss_cons (ps_asg pe_non (pg_sub (pe_fld (pv 0) rfl) (pv 2) set_list))
      (pss_one (ps_augS (pe_fld (pv 0) rfl) (pe_op op_fdivW (pv 2) (pe_fld (pv 0) rfl)) get_list pe_int ip_sub set_list)))) pss_nil)), ?_⟩
    obtain ⟨⟨n1, n2, n3, n4, n5⟩, ⟨n6, n7, n8, n9⟩, ⟨n10, n11, n12⟩, ⟨n13, n14⟩, n15⟩ := hB.ne
    have ho := hB.obj
    have a1 := hB.wh
    have a2 := hB.nm
    have a3 := hB.lv
    have a4 := hB.fl
    have a5 := hB.bn
    have z1 := hk.nm
    have z2 := hk.live
    have z3 := hk.p
    have z4 := hk.b
    unfold bookF at ho
    unfold Bk.drop at q
    walk_at "begin"
    walk_at "go"
    rw [valV_I]
    cases hg : getI k.wh n with
    | none =>
      rw [hg] at q
      walk_at "go"
      exact q H Off.refl hB
    | some x =>
      rw [hg] at q
      have hx := hk.wh _ (getI_mem hg)
      dsimp only at hx
      have hb0 : 0 ≤ x / k.p := Int.ediv_nonneg hx.1 (by omega)
      have hb1 : x / k.p < k.b := Int.ediv_lt_of_lt_mul (by omega) hx.2
      refine iteT ?_
      walk_at "go"
      refine x_dpp1I (v := .int x) (by walk_at "hp") (by rw [valV_I, hg]; rfl) (fun H1 hO1 hI1 => ?_)
      rw [dropK_I] at hI1
      walk_at "go"
      rename_i H2 hO2 hI2 H3 hO3 hI3
      have f0 : H3 r = some (.ins T.C_Book F.dx (bookF F k)) := by unfold bookF; walk_at "hp"
      have f1 : H3 F.wh = some (.dK (kvI (dropI k.wh n))) := by walk_at "hp"
      have f2 : H3 F.nm = some (.lst (k.nm.set x.toNat .non)) := by walk_at "hp"
      have f4 : H3 F.fl = some (.lst (k.fil.map V.int)) := by walk_at "hp"
      have f5 : H3 F.bn = some (.lst (k.born.map V.int)) := by walk_at "hp"
      have one : ∀ {y : Addr} {Ha Hb : Hp}, y ∈ F.all r → Off [y] Ha Hb → Off (F.all r) Ha Hb := fun hy h => h.sub fun b hb => by rw [List.mem_singleton.mp hb]; exact hy
      exact q H3 (((one (by simp [BF.all]) hO1).trans (one (by simp [BF.all]) hO2)).trans (one (by simp [BF.all]) hO3)) ⟨f0, f1, f2, by rw [List.map_set]; exact hI3, f4, f5, hB.nd⟩
theorem BkOk.drop {k : Bk} (h : BkOk k) (n : Int) : BkOk (k.drop n) := by
  unfold Bk.drop
  split
  · exact h
  · exact ⟨h.b, h.p, by show ((k.nm.set _ _).length : Int) = _; rw [List.length_set]; exact h.nm, by show ((k.live.set _ _).length : Int) = _; rw [List.length_set]; exact h.live, h.fil, h.born, fun e he => h.wh e (List.mem_filter.mp he).1, Nat.le_trans (List.length_filter_le _ _) h.whl, h.st⟩
theorem drop_b {k : Bk} {n : Int} : (k.drop n).b = k.b := by unfold Bk.drop; split <;> rfl
theorem drop_p {k : Bk} {n : Int} : (k.drop n).p = k.p := by unfold Bk.drop; split <;> rfl
theorem drop_whl {k : Bk} {n : Int} : (k.drop n).wh.length ≤ k.wh.length := by
  unfold Bk.drop
  split
  · exact Nat.le_refl _
  · exact List.length_filter_le _ _
theorem drop_st {k : Bk} {n : Int} : (k.drop n).stamp = k.stamp := by unfold Bk.drop; split <;> rfl
theorem x_mForget {T : Txt K mg} {H : Hp} {Q : VK} {E : XK} {σ : L2.St} {r : Addr} {F : BF} {k : Bk} {t : TA} (hB : BookAt T.C_Book H r F k) (h : t σ H fun vs H2 => spForget T (.ref r :: vs) H2 Q E) : mtK P w K mg base (L2.CX P w) 1 "forget" E σ t Q (.ref r) H :=
  x_mtK hB.obj ⟨⟨_, _, _, T.cl_Book, T.m_Book_forget, ok_Book_forget T, T.bd_Book_forget⟩⟩ rfl h
def Bk.note (k : Bk) (pg n : Int) : Bk :=
  { (k.drop n) with born := (if (k.drop n).fil.getD (pg / k.p).toNat 0 = 0 then (k.drop n).born.set (pg / k.p).toNat (k.drop n).stamp else (k.drop n).born), fil := (k.drop n).fil.set (pg / k.p).toNat ((k.drop n).fil.getD (pg / k.p).toNat 0 + 1), live := (k.drop n).live.set (pg / k.p).toNat ((k.drop n).live.getD (pg / k.p).toNat 0 + 1), nm := (k.drop n).nm.set pg.toNat (.int n), wh := putI (k.drop n).wh n pg, stamp := (k.drop n).stamp + 1 }
def spNote (T : Txt K mg) : Sp := fun vs H Q _ => ∃ (r : Addr) (F : BF) (k : Bk) (pg n : Int), vs = [.ref r, .int pg, .int n] ∧ BookAt T.C_Book H r F k ∧ BkOk k ∧ 0 ≤ pg ∧ pg < k.b * k.p ∧
  ∀ H', Off (F.all r) H H' → BookAt T.C_Book H' r F (k.note pg n) → Q .non H'
theorem ok_Book_note (T : Txt K mg) : FO P w K mg base 2 T.a_Book_note T.fd_Book_note ["self", "page", "name"] (spNote T) := by
  have sc := sc_Book_note
  refine T.F_Book_note.okX sc (fun vs H Q E h => ?_) (fun cdv A outer s H vs Q E hr h => ?_)
  · obtain ⟨_, _, _, _, _, rfl, _⟩ := h
    rfl
  · obtain ⟨r, F, k, pg, n, rfl, hB, hk, h0, h1, q⟩ := h
    refine ⟨_, (pss_cons (ps_expr (pe_methD (k := 1) (pv 0) (hr.mono (by decide)) (passAt (takes_of rfl rfl rfl rfl)) (pa_cons (pv 2) pa_nil)))
      (pss_cons (ps_set (i := 3) sc.nd rfl (by first | exact Or.inl rfl | exact Or.inr rfl) (pe_op op_fdivW (pv 1) (pe_fld (pv 0) rfl)))
      (pss_cons (ps_if (pt_cmpR (op_uEq hr.units) (pe_ix ix_seq (pe_fld (pv 0) rfl) (pv 3) (fun _ _ => rfl)) pe_int (nomark _)) (pss_one (ps_asg (pe_fld (pv 0) rfl) (pg_sub (pe_fld (pv 0) rfl) (pv 3) set_list))) pss_nil)
      (pss_cons (ps_augS (pe_fld (pv 0) rfl) (pv 3) get_list pe_int ip_add set_list)
      (pss_cons (ps_augS (pe_fld (pv 0) rfl) (pv 3) get_list pe_int ip_add set_list)
      (pss_cons (ps_asg (pv 2) (pg_sub (pe_fld (pv 0) rfl) (pv 1) set_list))
      (pss_cons (ps_dput (hu_of hr) (pe_fld (pv 0) rfl) (pv 2) (pv 1) rfl)
      (pss_one (ps_fldaug (pv 0) pe_int in_add))))))))), ?_⟩
    obtain ⟨⟨n1, n2, n3, n4, n5⟩, ⟨n6, n7, n8, n9⟩, ⟨n10, n11, n12⟩, ⟨n13, n14⟩, n15⟩ := hB.ne
    have hk1 := hk.drop n
    have hpb := hk.p
    have hbb := hk.b
    have hb0 : 0 ≤ pg / k.p := Int.ediv_nonneg h0 (by omega)
    have hb1 : pg / k.p < k.b := Int.ediv_lt_of_lt_mul (by omega) h1
    have eb := drop_b (k := k) (n := n)
    have ep := drop_p (k := k) (n := n)
    unfold Bk.note at q
    walk_at "begin"
    walk_at "go"
    refine x_mForget hB ?_
    walk_at "go"
    refine ⟨r, F, k, n, rfl, hB, hk, fun H1 hO1 hB1 => ?_⟩
    generalize k.drop n = k1 at q hk1 hB1 eb ep
    have ho := hB1.obj
    have a1 := hB1.wh
    have a2 := hB1.nm
    have a3 := hB1.lv
    have a4 := hB1.fl
    have a5 := hB1.bn
    have z1 := hk1.nm
    have z2 := hk1.live
    have z3 := hk1.fil
    have z4 := hk1.born
    have z5 := hk1.whl
    rw [eb] at z1 z2 z3 z4
    rw [ep] at z1
    unfold bookF at ho
    rw [ep] at ho
    have hO1' := hO1
    clear hO1
    walk_at "go"
    refine x_join (fun σ' H2 => σ' = [some (.ref r), some (.int pg), some (.int n), some (.int (pg / k.p))] ∧ Off [F.bn] H1 H2 ∧ H2 F.bn = some (.lst ((if k1.fil.getD (pg / k.p).toNat 0 = 0 then k1.born.set (pg / k.p).toNat k1.stamp else k1.born).map V.int))) (fun R hR => ?_) ?_
    · walk_at "go"
      refine x_iteD (fun h => ?_) (fun h => ?_)
      · walk_at "go"
        rename_i H2 hO2 hI2
        exact hR _ _ ⟨rfl, hO2, by rw [if_pos h, List.map_set]; exact hI2⟩
      · walk_at "go"
        exact hR _ _ ⟨rfl, Off.refl, by rw [if_neg h]; exact a5⟩
    intro σ' H2 ⟨hσ, hO2, hI2⟩
    subst hσ
    walk_at "go"
    rename_i H3 hO3 hI3 H4 hO4 hI4 H5 hO5 hI5
    have e1 : H5 F.wh = some (.dK (kvI k1.wh)) := by walk_at "hp"
    refine x_dpI (kvs' := kvI (putI k1.wh n pg)) (by exact e1) putK_I (fun H6 hO6 hI6 => ?_) (by rw [kvI_len]; omega)
    walk_at "go"
    have e2 : H6 r = some (.ins T.C_Book F.dx [("blocks", .int k1.b), ("pages", .int k.p), ("where", .ref F.wh), ("names", .ref F.nm), ("live", .ref F.lv), ("filled", .ref F.fl), ("born", .ref F.bn), ("stamp", .int k1.stamp)]) := by walk_at "hp"
    refine x_faK e2 rfl ?_ T.cl_Book T.na_Book_stamp
    walk_at "go"
    refine x_f3O (fs' := [("blocks", .int k1.b), ("pages", .int k.p), ("where", .ref F.wh), ("names", .ref F.nm), ("live", .ref F.lv), ("filled", .ref F.fl), ("born", .ref F.bn), ("stamp", .int (k1.stamp + 1))]) e2 rfl (fun H7 hO7 hI7 => ?_) (Nat.le_of_ble_eq_true rfl)
    have f1 : H7 F.wh = some (.dK (kvI (putI k1.wh n pg))) := by walk_at "hp"
    have f2 : H7 F.nm = some (.lst (k1.nm.set pg.toNat (.int n))) := by walk_at "hp"
    have f3 : H7 F.lv = some (.lst ((k1.live.set (pg / k.p).toNat (k1.live.getD (pg / k.p).toNat 0 + 1)).map V.int)) := by rw [List.map_set]; walk_at "hp"
    have f4 : H7 F.fl = some (.lst ((k1.fil.set (pg / k.p).toNat (k1.fil.getD (pg / k.p).toNat 0 + 1)).map V.int)) := by rw [List.map_set]; walk_at "hp"
    have f5 : H7 F.bn = some (.lst ((if k1.fil.getD (pg / k.p).toNat 0 = 0 then k1.born.set (pg / k.p).toNat k1.stamp else k1.born).map V.int)) := by walk_at "hp"
    have one : ∀ {y : Addr} {Ha Hb : Hp}, y ∈ F.all r → Off [y] Ha Hb → Off (F.all r) Ha Hb := fun hy h => h.sub fun b hb => by rw [List.mem_singleton.mp hb]; exact hy
    refine q H7 (((((hO1'.trans (one (by simp [BF.all]) hO2)).trans (one (by simp [BF.all]) hO3)).trans (one (by simp [BF.all]) hO4)).trans (one (by simp [BF.all]) hO5)).trans ((one (by simp [BF.all]) hO6).trans (one (by simp [BF.all]) hO7))) ⟨?_, f1, f2, f3, f4, f5, hB.nd⟩
    rw [← ep] at hI7
    exact hI7
theorem putI_mem {ps : List (Int × Int)} {n x : Int} {e : Int × Int} (h : e ∈ putI ps n x) : e ∈ ps ∨ e.2 = x := by
  unfold putI at h
  split at h
  · obtain ⟨y, hy, rfl⟩ := List.mem_map.mp h
    split
    · exact .inr rfl
    · exact .inl hy
  · rcases List.mem_append.mp h with h | h
    · exact .inl h
    · rw [List.mem_singleton.mp h]; exact .inr rfl
theorem putI_len {ps : List (Int × Int)} {n x : Int} : (putI ps n x).length ≤ ps.length + 1 := by
  unfold putI
  split
  · rw [List.length_map]; exact Nat.le_succ _
  · rw [List.length_append]; exact Nat.le_refl _
theorem BkOk.note {k : Bk} (h : BkOk k) {pg n : Int} (h0 : 0 ≤ pg) (h1 : pg < k.b * k.p) (hl : k.wh.length < 900) (hs : k.stamp + 1 < 10 ^ 40) : BkOk (k.note pg n) := by
  have d := h.drop n
  have eb := drop_b (k := k) (n := n)
  have ep := drop_p (k := k) (n := n)
  have es := drop_st (k := k) (n := n)
  have el := drop_whl (k := k) (n := n)
  unfold Bk.note
  refine ⟨d.b, d.p, ?_, ?_, ?_, ?_, fun e he => ?_, ?_, ?_⟩
  · show (((k.drop n).nm.set _ _).length : Int) = _; rw [List.length_set]; exact d.nm
  · show (((k.drop n).live.set _ _).length : Int) = _; rw [List.length_set]; exact d.live
  · show (((k.drop n).fil.set _ _).length : Int) = _; rw [List.length_set]; exact d.fil
  · dsimp only
    split
    · rw [List.length_set]; exact d.born
    · exact d.born
  · rcases putI_mem he with he | he
    · exact d.wh e he
    · show 0 ≤ e.2 ∧ e.2 < (k.drop n).b * (k.drop n).p
      rw [he, eb, ep]; exact ⟨h0, h1⟩
  · exact Nat.le_trans putI_len (by omega)
  · show 0 ≤ (k.drop n).stamp + 1 ∧ (k.drop n).stamp + 1 < 10 ^ 40
    rw [es]
    have := h.st
    exact ⟨by omega, hs⟩
theorem x_mNote {T : Txt K mg} {H : Hp} {Q : VK} {E : XK} {σ : L2.St} {r : Addr} {F : BF} {k : Bk} {t : TA} (hB : BookAt T.C_Book H r F k) (h : t σ H fun vs H2 => spNote T (.ref r :: vs) H2 Q E) : mtK P w K mg base (L2.CX P w) 2 "note" E σ t Q (.ref r) H :=
  x_mtK hB.obj ⟨⟨_, _, _, T.cl_Book, T.m_Book_note, ok_Book_note T, T.bd_Book_note⟩⟩ rfl h
local macro_rules | `(tactic| walk_at "u") => `(tactic| ((with_reducible refine x_mark ?_ ?hs); (try (case hs => walk_at "side"))))
def spBMark (T : Txt K mg) : Sp := fun vs H Q _ => ∃ (r : Addr) (F : BF) (k : Bk) (n : Int), vs = [.ref r, .int n] ∧ BookAt T.C_Book H r F k ∧ BkOk k ∧ 0 ≤ n ∧ n < 128 ∧ Q (.int (mk k.stamp n)) H
theorem ok_Book_mark (T : Txt K mg) : FO P w K mg base 2 T.a_Book_mark T.fd_Book_mark ["self", "name"] (spBMark T) := by
  have sc := sc_Book_mark
  refine T.F_Book_mark.okX sc (fun vs H Q E h => ?_) (fun cdv A outer s H vs Q E hr h => ?_)
  · obtain ⟨_, _, _, _, rfl, _⟩ := h
    rfl
  · obtain ⟨r, F, k, n, rfl, hB, hk, h0, h1, q⟩ := h
    refine ⟨_, (pss_one (ps_ret (pe_callS (ok_mark_of T) (hr.mono (by decide)) (by rfl) T.g_mark_of T.k_mark_of T.bd_mark_of (passAt (takes_of rfl rfl rfl rfl)) (pa_cons (pe_fld (pv 0) rfl) (pa_cons (pv 1) pa_nil))))), ?_⟩
    have ho := hB.obj
    unfold bookF at ho
    have hst := hk.st
    have hs : 0 ≤ k.stamp ∧ k.stamp < 10 ^ 45 ∧ 0 ≤ n ∧ n < 128 := ⟨hst.1, Int.lt_trans hst.2 (by decide), h0, h1⟩
    walk_at "begin"
    walk_at "go"
    exact q
theorem x_mMark {T : Txt K mg} {H : Hp} {Q : VK} {E : XK} {σ : L2.St} {r : Addr} {F : BF} {k : Bk} {t : TA} (hB : BookAt T.C_Book H r F k) (h : t σ H fun vs H2 => spBMark T (.ref r :: vs) H2 Q E) : mtK P w K mg base (L2.CX P w) 2 "mark" E σ t Q (.ref r) H :=
  x_mtK hB.obj ⟨⟨_, _, _, T.cl_Book, T.m_Book_mark, ok_Book_mark T, T.bd_Book_mark⟩⟩ rfl h

/-! ### terms -/
def TmAt (C : Addr) (H : Hp) (r : Addr) (b p s h i z : Int) : Prop := ∃ dx, H r = some (.ins C dx [("blocks", .int b), ("pages", .int p), ("sheets", .int s), ("share", .int h), ("ill", .int i), ("spread", .int z)])
def spClosed (T : Txt K mg) : Sp := fun vs H Q _ => ∃ (r dx : Addr) (b i : Int) (fs : List (Str × V)), vs = [.ref r] ∧ H r = some (.ins T.C_Terms dx fs) ∧ fs.lookup ("blocks" : Str) = some (V.int b) ∧ fs.lookup ("ill" : Str) = some (V.int i) ∧ Q (.int (b - 1 - i)) H
theorem ok_Terms_closed (T : Txt K mg) : FO P w K mg base 1 T.a_Terms_closed T.fd_Terms_closed ["self"] (spClosed T) := by
  have sc := sc_Terms_closed
  refine T.F_Terms_closed.okX sc (fun vs H Q E h => ?_) (fun cdv A outer s H vs Q E hr h => ?_)
  · obtain ⟨_, _, _, _, _, rfl, _⟩ := h
    rfl
  · obtain ⟨r, dx, b, i, fs, rfl, hR, h1, h2, q⟩ := h
    refine ⟨_, (pss_one (ps_ret (pe_op op_sub (pe_op op_sub (pe_fld (pv 0) rfl) pe_int) (pe_fld (pv 0) rfl)))), ?_⟩
    walk_at "begin"
    walk_at "go"
    refine x_fldK hR h1 ?_ T.cl_Terms T.na_Terms_blocks
    walk_at "go"
    refine x_fldK hR h2 ?_ T.cl_Terms T.na_Terms_ill
    walk_at "go"
    exact q
theorem MO_closed (T : Txt K mg) : MO P w K mg base (L2.CX P w) 1 T.C_Terms "closed" (spClosed T) := ⟨⟨_, _, _, T.cl_Terms, T.m_Terms_closed, ok_Terms_closed T, T.bd_Terms_closed⟩⟩
/-- whether the six are tmGood terms -/
def tmGood (b p s h i z : Option Int) : Bool := inB b 2 16 && inB p 1 16 && inB s 1 64 && inB i 0 (b.getD 0 - 2) && inB z 1 1000000 && inB h 1 ((b.getD 0 - 1 - i.getD 0) * p.getD 0 - 2)
def spTInit (T : Txt K mg) : Sp := fun vs H Q E => ∃ (r dx : Addr) (vb vp vs' vh vi vz : V) (b p s h i z : Option Int), vs = [.ref r, vb, vp, vs', vh, vi, vz] ∧ H r = some (.ins T.C_Terms dx []) ∧
  Num vb b ∧ Num vp p ∧ Num vs' s ∧ Num vh h ∧ Num vi i ∧ Num vz z ∧ ((tmGood b p s h i z = true ∧ ∀ H', Off [r] H H' → TmAt T.C_Terms H' r (b.getD 0) (p.getD 0) (s.getD 0) (h.getD 0) (i.getD 0) (z.getD 0) → Q .non H') ∨
    (tmGood b p s h i z = false ∧ ∀ H', Off [r] H H' → E (.ref T.C_NoTerms) none H'))
theorem ok_Terms_init (T : Txt K mg) : FO P w K mg base 3 T.a_Terms_init T.fd_Terms_init ["self", "blocks", "pages", "sheets", "share", "ill", "spread"] (spTInit T) := by
  have sc := sc_Terms_init
  refine T.F_Terms_init.okX sc (fun vs H Q E h => ?_) (fun cdv A outer s H vs Q E hr h => ?_)
  · obtain ⟨_, _, _, _, _, _, _, _, _, _, _, _, _, _, rfl, _⟩ := h
    rfl
  · obtain ⟨r, dx, vb, vp, vs', vh, vi, vz, b, p, s, h, i, z, rfl, hR, nb, np, ns, nh, ni, nz, q⟩ := h
    refine ⟨_, (pss_cons (ps_if (PW.pt (pw_or (pt_not (pt_truth (pe_callS (ok_is_within T) (hr.mono (by decide)) (by rfl) T.g_is_within T.k_is_within T.bd_is_within (passAt (takes_of rfl rfl rfl rfl)) (pa_cons (pv 1) (pa_cons pe_int (pa_cons pe_int pa_nil)))) (by intro _; rfl))) (pw_or (pt_not (pt_truth (pe_callS (ok_is_within T) (hr.mono (by decide)) (by rfl) T.g_is_within T.k_is_within T.bd_is_within (passAt (takes_of rfl rfl rfl rfl)) (pa_cons (pv 2) (pa_cons pe_int (pa_cons pe_int pa_nil)))) (by intro _; rfl))) (pw_or1 (pt_not (pt_truth (pe_callS (ok_is_within T) (hr.mono (by decide)) (by rfl) T.g_is_within T.k_is_within T.bd_is_within (passAt (takes_of rfl rfl rfl rfl)) (pa_cons (pv 3) (pa_cons pe_int (pa_cons pe_int pa_nil)))) (by intro _; rfl))))))) (pss_one (ps_raiseK rfl (takes_of rfl rfl rfl rfl) (pmk_ownK T.xc_NoTerms T.g_NoTerms rfl))) pss_nil)
      (pss_cons (ps_if (PW.pt (pw_or (pt_not (pt_truth (pe_callS (ok_is_within T) (hr.mono (by decide)) (by rfl) T.g_is_within T.k_is_within T.bd_is_within (passAt (takes_of rfl rfl rfl rfl)) (pa_cons (pv 5) (pa_cons pe_int (pa_cons (pe_op op_sub (pv 1) pe_int) pa_nil)))) (by intro _; rfl))) (pw_or1 (pt_not (pt_truth (pe_callS (ok_is_within T) (hr.mono (by decide)) (by rfl) T.g_is_within T.k_is_within T.bd_is_within (passAt (takes_of rfl rfl rfl rfl)) (pa_cons (pv 6) (pa_cons pe_int (pa_cons pe_int pa_nil)))) (by intro _; rfl)))))) (pss_one (ps_raiseK rfl (takes_of rfl rfl rfl rfl) (pmk_ownK T.xc_NoTerms T.g_NoTerms rfl))) pss_nil)
      (pss_cons (ps_fld (pv 0) (pv 1) rfl)
      (pss_cons (ps_fld (pv 0) (pv 2) rfl)
      (pss_cons (ps_fld (pv 0) (pv 3) rfl)
      (pss_cons (ps_fld (pv 0) (pv 4) rfl)
      (pss_cons (ps_fld (pv 0) (pv 5) rfl)
      (pss_cons (ps_fld (pv 0) (pv 6) rfl)
      (pss_one (ps_if (pt_not (pt_truth (pe_callS (ok_is_within T) (hr.mono (by decide)) (by rfl) T.g_is_within T.k_is_within T.bd_is_within (passAt (takes_of rfl rfl rfl rfl)) (pa_cons (pv 4) (pa_cons pe_int (pa_cons (pe_op op_sub (pe_op op_uMul (pe_methD0 (k := 1) (pv 0) (hr.mono (by decide)) (passAt (takes_of rfl rfl rfl rfl))) (pv 2)) pe_int) pa_nil)))) (by intro _; rfl))) (pss_one (ps_raiseK rfl (takes_of rfl rfl rfl rfl) (pmk_ownK T.xc_NoTerms T.g_NoTerms rfl))) pss_nil)))))))))), ?_⟩
    walk_at "begin"
    have qE : tmGood b p s h i z = false → ∀ H', Off [r] H H' → E (.ref T.C_NoTerms) none H' := fun hg => by
      rcases q with ⟨hg2, _⟩ | ⟨_, q⟩
      · rw [hg] at hg2; cases hg2
      · exact q
    walk_at "if"
    refine x_wNum nb ?_
    walk_at "go"
    refine x_iteB (fun hb => ?_) (fun hb => ?_)
    rotate_left
    · walk_at "go"
      exact qE (by unfold tmGood; rw [hb]; rfl) H Off.refl
    obtain ⟨b, rfl, rfl, hb1, hb2⟩ := nb.of_inB hb
    walk_at "go"
    refine x_wNum np ?_
    walk_at "go"
    refine x_iteB (fun hp => ?_) (fun hp => ?_)
    rotate_left
    · walk_at "go"
      exact qE (by unfold tmGood; rw [hb, hp]; rfl) H Off.refl
    obtain ⟨p, rfl, rfl, hp1, hp2⟩ := np.of_inB hp
    walk_at "go"
    refine x_wNum ns ?_
    walk_at "go"
    refine x_iteB (fun hs => ?_) (fun hs => ?_)
    rotate_left
    · walk_at "go"
      exact qE (by unfold tmGood; rw [hb, hp, hs]; rfl) H Off.refl
    obtain ⟨s, rfl, rfl, hs1, hs2⟩ := ns.of_inB hs
    walk_at "go"
    walk_at "if"
    refine x_wNum ni ?_
    walk_at "go"
    refine x_iteB (fun hi => ?_) (fun hi => ?_)
    rotate_left
    · walk_at "go"
      exact qE (by unfold tmGood; rw [hb, hp, hs, show inB i 0 ((some b).getD 0 - 2) = false from hi]; rfl) H Off.refl
    obtain ⟨i, rfl, rfl, hi1, hi2⟩ := ni.of_inB hi
    walk_at "go"
    refine x_wNum nz ?_
    walk_at "go"
    refine x_iteB (fun hz => ?_) (fun hz => ?_)
    rotate_left
    · walk_at "go"
      exact qE (by unfold tmGood; rw [hb, hp, hs, show inB (some i) 0 ((some b).getD 0 - 2) = true from hi, hz]; rfl) H Off.refl
    obtain ⟨z, rfl, rfl, hz1, hz2⟩ := nz.of_inB hz
    walk_at "go"
    rename_i H1 hO1 hI1 H2 hO2 hI2 H3 hO3 hI3 H4 hO4 hI4 H5 hO5 hI5 H6 hO6 hI6
    have hO : Off [r] H H6 := ((((hO1.trans hO2).trans hO3).trans hO4).trans hO5).trans hO6
    refine x_mtK hI6 (MO_closed T) rfl ?_
    walk_at "go"
    refine ⟨_, _, _, _, _, rfl, hI6, rfl, rfl, ?_⟩
    walk_at "go"
    refine x_wNum nh ?_
    walk_at "go"
    refine x_iteB (fun hh => ?_) (fun hh => ?_)
    rotate_left
    · walk_at "go"
      exact qE (by unfold tmGood; rw [hb, hp, hs, show inB (some i) 0 ((some b).getD 0 - 2) = true from hi, hz, show inB h 1 (((some b).getD 0 - 1 - (some i).getD 0) * (some p).getD 0 - 2) = false from hh]; rfl) H6 hO
    obtain ⟨h, rfl, rfl, hh1, hh2⟩ := nh.of_inB hh
    walk_at "go"
    rcases q with ⟨_, q⟩ | ⟨hg, _⟩
    · exact q H6 hO ⟨dx, hI6⟩
    · unfold tmGood at hg
      rw [hb, hp, hs, show inB (some i) 0 ((some b).getD 0 - 2) = true from hi, hz, show inB (some h) 1 (((some b).getD 0 - 1 - (some i).getD 0) * (some p).getD 0 - 2) = true from hh] at hg
      cases hg

/-! ### a plain store -/
structure Ts where
  b : Int
  p : Int
  s : Int
  h : Int
  i : Int
  z : Int
def termF (t : Ts) : List (Str × V) := [("blocks", .int t.b), ("pages", .int t.p), ("sheets", .int t.s), ("share", .int t.h), ("ill", .int t.i), ("spread", .int t.z)]
structure PF where
  dx : Addr
  rc : Addr
  fc : CF
  rt : Addr
  dt : Addr
  rb : Addr
  fb : BF
def plainF (P : PF) : List (Str × V) := [("chip", .ref P.rc), ("terms", .ref P.rt), ("book", .ref P.rb)]
/-- what changes: the chip and the book -/
def PF.mut (P : PF) : List Addr := P.fc.all P.rc ++ P.fb.all P.rb
structure PlainAt (T : Txt K mg) (H : Hp) (r : Addr) (P : PF) (t : Ts) (c : Cs) (k : Bk) : Prop where
  obj : H r = some (.ins T.C_Plain P.dx (plainF P))
  chip : ChipAt T.C_Chip H P.rc P.fc c
  terms : H P.rt = some (.ins T.C_Terms P.dt (termF t))
  book : BookAt T.C_Book H P.rb P.fb k
  bok : BkOk k
  same : t.b = c.b ∧ t.p = c.p ∧ k.b = c.b ∧ k.p = c.p
  nr : r ∉ P.mut
  nt : P.rt ∉ P.mut
  cb : ∀ a ∈ P.fb.all P.rb, a ∉ P.fc.all P.rc
theorem PlainAt.mono {T : Txt K mg} {H H' : Hp} {r : Addr} {P : PF} {t : Ts} {c : Cs} {k : Bk} (s : Same H H') (h : PlainAt T H r P t c k) : PlainAt T H' r P t c k := ⟨s _ _ h.obj, h.chip.mono s, s _ _ h.terms, h.book.mono s, h.bok, h.same, h.nr, h.nt, h.cb⟩
/-- the chip changes -/
theorem PlainAt.chipC {T : Txt K mg} {H H' : Hp} {r : Addr} {P : PF} {t : Ts} {c c' : Cs} {k : Bk} (h : PlainAt T H r P t c k) (s : Off (P.fc.all P.rc) H H') (hC : ChipAt T.C_Chip H' P.rc P.fc c') (e : c'.b = c.b ∧ c'.p = c.p) : PlainAt T H' r P t c' k := by
  have hs := h.same
  exact ⟨s.at h.obj (fun z => h.nr (List.mem_append_left _ z)), hC, s.at h.terms (fun z => h.nt (List.mem_append_left _ z)), h.book.off s h.cb, h.bok, by rw [e.1, e.2]; exact hs, h.nr, h.nt, h.cb⟩
/-- the book changes -/
theorem PlainAt.bookC {T : Txt K mg} {H H' : Hp} {r : Addr} {P : PF} {t : Ts} {c : Cs} {k k' : Bk} (h : PlainAt T H r P t c k) (s : Off (P.fb.all P.rb) H H') (hB : BookAt T.C_Book H' P.rb P.fb k') (hk : BkOk k') (e : k'.b = k.b ∧ k'.p = k.p) : PlainAt T H' r P t c k' := by
  have hs := h.same
  have ht := tups_of h.book.there s
  exact ⟨s.at h.obj (fun z => h.nr (List.mem_append_right _ z)), h.chip.off s (fun a ha hb => h.cb a hb ha) ht, s.at h.terms (fun z => h.nt (List.mem_append_right _ z)), hB, hk, by rw [e.1, e.2]; exact hs, h.nr, h.nt, h.cb⟩
def spPInit (T : Txt K mg) : Sp := fun vs H Q _ => ∃ (r dx rc : Addr) (F : CF) (rt dt : Addr) (t : Ts) (c : Cs), vs = [.ref r, .ref rc, .ref rt] ∧ H r = some (.ins T.C_Plain dx []) ∧ ChipAt T.C_Chip H rc F c ∧ H rt = some (.ins T.C_Terms dt (termF t)) ∧ t.b = c.b ∧ t.p = c.p ∧ r ∉ F.all rc ∧ r ≠ rt ∧ rt ∉ F.all rc ∧
  ∀ rb fb H', Off [r] H H' → (∀ a ∈ BF.all fb rb, H a = none) → PlainAt T H' r ⟨dx, rc, F, rt, dt, rb, fb⟩ t c (Bk.new c.b c.p) → Q .non H'
theorem ok_Plain_init (T : Txt K mg) : FO P w K mg base 4 T.a_Plain_init T.fd_Plain_init ["self", "chip", "terms"] (spPInit T) := by
  have sc := sc_Plain_init
  refine T.F_Plain_init.okX sc (fun vs H Q E h => ?_) (fun cdv A outer s H vs Q E hr h => ?_)
  · obtain ⟨_, _, _, _, _, _, _, _, rfl, _⟩ := h
    rfl
  · obtain ⟨r, dx, rc, F, rt, dt, t, c, rfl, hR, hC, hT, e1, e2, d1, d2, d3, q⟩ := h
    refine ⟨_, (pss_cons (ps_if (PW.pt (pw_or (pt_cmpR (op_uNe hr.units) (pe_fld (pv 1) rfl) (pe_fld (pv 2) rfl) (nomark _)) (pw_or1 (pt_cmpR (op_uNe hr.units) (pe_fld (pv 1) rfl) (pe_fld (pv 2) rfl) (nomark _))))) (pss_one (ps_raiseK rfl (takes_of rfl rfl rfl rfl) (pmk_ownK T.xc_NoTerms T.g_NoTerms rfl))) pss_nil)
      (pss_cons (ps_fld (pv 0) (pv 1) rfl)
      (pss_cons (ps_fld (pv 0) (pv 2) rfl)
      (pss_one (ps_fld (pv 0) (pe_mkS T.mk_Book (ok_Book_init T) (hr.mono (by decide)) (by rfl) T.g_Book T.bd_Book_init .nil (passAt (takes_of rfl rfl rfl rfl)) (pa_cons (pe_fld (pv 1) rfl) (pa_cons (pe_fld (pv 1) rfl) pa_nil))) rfl))))), ?_⟩
    have hoc := hC.obj
    have hot := hT
    unfold chipF at hoc
    unfold termF at hot
    walk_at "begin"
    walk_at "if"
    refine x_iteD (fun _ => ?_) (fun h => absurd e1.symm h)
    walk_at "go"
    refine x_iteD (fun _ => ?_) (fun h => absurd e2.symm h)
    have d4 : rc ≠ r := fun z => d1 (by rw [← z]; exact List.mem_cons_self)
    have d5 : rt ≠ r := d2.symm
    walk_at "go"
    rename_i H1 hO1 hI1 H2 hO2 hI2 x dxb H3 hx hdx hne hs3 hn3 hdd
    have o2 : Off [r] H H2 := hO1.trans hO2
    refine ⟨x, dxb, c.b, c.p, rfl, hn3, hC.sz.b, hC.sz.p, fun fb H4 hO4 hF4 hB4 => ⟨rfl, ?_⟩⟩
    have rx : r ≠ x := ne_of_none hI2 hx
    have hI4 : H4 r = some (.ins T.C_Plain dx [("chip", .ref rc), ("terms", .ref rt)]) := hO4.at (hs3 _ _ hI2) (nin_of rx)
    walk_at "go"
    rename_i H5 hO5 hI5
    have s24 : Same H2 H4 := Off.same1 hs3 hO4 hx
    have o5 : Off [r] H H5 := (o2.trans (Off.of s24)).trans hO5
    have hx0 : H x = none := off_none o2 hx rx.symm
    have nB : ∀ a ∈ BF.all fb x, H2 a = none := fun a ha => by
      by_cases e : a = x
      · rw [e]; exact hx
      · exact same_none hs3 (hF4 a ha e)
    have nr : ∀ a ∈ BF.all fb x, a ≠ r := fun a ha z => by
      have := nB a ha
      rw [z, hI2] at this
      cases this
    have nH : ∀ a ∈ BF.all fb x, H a = none := fun a ha => off_none o2 (nB a ha) (nr a ha)
    have tS : TupS H H5 := o5.tups hR
    have hC5 : ChipAt T.C_Chip H5 rc F c := hC.off o5 (fun a ha => nin_of (fun z => d1 (z ▸ ha))) tS
    have hB5 : BookAt T.C_Book H5 x fb (Bk.new c.b c.p) := hB4.off hO5 (fun a ha => nin_of (nr a ha))
    refine q x fb H5 o5 nH ⟨hI5, hC5, o5.at hT (nin_of d5), hB5, Bk.new_ok hC.sz.b hC.sz.p, ⟨e1, e2, rfl, rfl⟩, fun z => ?_, fun z => ?_, fun a ha => hC.fresh (nH a ha)⟩
    · rcases List.mem_append.mp z with z | z
      · exact d1 z
      · exact nr r z rfl
    · rcases List.mem_append.mp z with z | z
      · exact d3 z
      · have := nH rt z
        rw [hT] at this
        cases this
/-! what the store tells of its blocks -/
theorem range_filt2 {f : Nat → Bool} {s : Nat} : (List.range (s + 1)).filter f = if f s = true then (List.range s).filter f ++ [s] else (List.range s).filter f := by
  rw [List.range_succ, List.filter_append]
  split
  · rename_i h; simp [h]
  · rename_i h; simp [h]
def goodL (c : Cs) : List Nat := (List.range c.b.toNat).filter fun n => !c.broken.getD n false
def spGood (T : Txt K mg) : Sp := fun vs H Q _ => ∃ (r : Addr) (P : PF) (t : Ts) (c : Cs) (k : Bk), vs = [.ref r] ∧ PlainAt T H r P t c k ∧ ∀ p H', Same H H' → H p = none → H' p = some (.lst ((goodL c).map fun n : Nat => V.int (n : Int))) → Q (.ref p) H'
theorem ok_Plain_good (T : Txt K mg) : FO P w K mg base 5 T.a_Plain_good T.fd_Plain_good ["self"] (spGood T) := by
  have sc := sc_Plain_good
  refine T.F_Plain_good.okX sc (fun vs H Q E h => ?_) (fun cdv A outer s H vs Q E hr h => ?_)
  · obtain ⟨_, _, _, _, _, rfl, _⟩ := h
    rfl
  · obtain ⟨r, P0, t, c, k, rfl, hP, q⟩ := h
    refine ⟨_, (pss_one (ps_ret (pe_lc (own := [("block", 1)]) (by rfl) sc.nd (pi_range1 (by rfl) T.b_range (pa_cons (pe_fld (pe_fld (pv 0) rfl) rfl) pa_nil)) (blkOk_by (own := [("block", 1)]) (N := N_Plain_good) (sc := defScope s_Plain_good) (by decide +kernel)) (fun _ _ _ _ _ => (pg_name (i := 1) sc.nd rfl (by first | exact Or.inl rfl | exact Or.inr rfl))) (fun _ _ _ _ _ => (pts_one (pt_not (K_truth (K := K) (K_methD (P := P) (w := w) (K := K) (mg := mg) (base := base) (k := 4) (K_fld (K := K) (pv 0) rfl) (hr.mono (by decide)) passL2 (pa_cons (pv 1) pa_nil)) (by intro _; rfl))))) (fun _ _ _ _ _ => (pv 1))))), ?_⟩
    have ho := hP.obj
    have hot := hP.terms
    have hC := hP.chip
    have hsz := hC.sz
    have hbb := hsz.b
    have zb := hsz.broken
    have es := hP.same.1
    unfold plainF at ho
    unfold termF at hot
    walk_at "begin"
    walk_at "go"
    rw [es]
    refine x_lcR1K (fun i acc H' => acc = (((List.range i).filter fun n => !c.broken.getD n false).map fun n : Nat => V.int (n : Int))) (fun i acc H H' _ h => h) ⟨by omega, by omega⟩ rfl ?_ ?_
    · intro i acc H' hi hs' ha NY NN hY hN
      have hC' := hC.mono hs'
      have ho' := hs' _ _ ho
      have hi2 : 0 ≤ ((i : Nat) : Int) ∧ ((i : Nat) : Int) < c.b := by omega
      dsimp only [wipe]
      walk_at "go"
      refine ⟨rfl, ?_⟩
      walk_at "go"
      refine x_mFailed hC' ?_
      walk_at "go"
      refine x_failed hC' ?_ hi2
      rw [Int.toNat_natCast]
      have er := range_filt2 (f := fun n => !c.broken.getD n false) (s := i)
      cases hbk : c.broken.getD i false with
      | true =>
        walk_at "go"
        refine hN _ (fun _ _ h => h) ?_
        show acc = _
        rw [er, if_neg (by rw [hbk]; decide)]
        exact ha
      | false =>
        walk_at "go"
        refine hY _ _ (fun _ _ h => h) ?_
        show acc ++ _ = _
        rw [er, if_pos (by rw [hbk]; rfl), ha, List.map_append]
        rfl
    · intro p acc H2 hp hs2 hn2 ha
      rw [ha] at hn2
      exact q p H2 hs2 hp hn2
theorem x_mPGood {T : Txt K mg} {H : Hp} {Q : VK} {E : XK} {σ : L2.St} {r : Addr} {P0 : PF} {t : Ts} {c : Cs} {k : Bk} (hP : PlainAt T H r P0 t c k) (q : ∀ p H', Same H H' → H p = none → H' p = some (.lst ((goodL c).map fun n : Nat => V.int (n : Int))) → Q (.ref p) H') : mtK P w K mg base (L2.CX P w) 5 "good" E σ tNil Q (.ref r) H :=
  x_mtK hP.obj ⟨⟨_, _, _, T.cl_Plain, T.m_Plain_good, ok_Plain_good T, T.bd_Plain_good⟩⟩ rfl ⟨r, P0, t, c, k, rfl, hP, q⟩
/-- the first good block that is partly written -/
def partO (c : Cs) (k : Bk) : Option Nat := (goodL c).find? fun n => decide (0 < k.fil.getD n 0) && decide (k.fil.getD n 0 < c.p)
def oV : Option Nat → V
  | none => .non
  | some n => .int (n : Int)
def spPart (T : Txt K mg) : Sp := fun vs H Q _ => ∃ (r : Addr) (P : PF) (t : Ts) (c : Cs) (k : Bk), vs = [.ref r] ∧ PlainAt T H r P t c k ∧ ∀ H', Same H H' → Q (oV (partO c k)) H'
theorem ok_Plain_part (T : Txt K mg) : FO P w K mg base 6 T.a_Plain_part T.fd_Plain_part ["self"] (spPart T) := by
  have sc := sc_Plain_part
  refine T.F_Plain_part.okX sc (fun vs H Q E h => ?_) (fun cdv A outer s H vs Q E hr h => ?_)
  · obtain ⟨_, _, _, _, _, rfl, _⟩ := h
    rfl
  · obtain ⟨r, P0, t, c, k, rfl, hP, q⟩ := h
    refine ⟨_, (pss_cons (ps_for (passes_of rfl) rfl (pi_list (pe_methD0 (k := 5) (pv 0) (hr.mono (by decide)) (passAt (takes_of rfl rfl rfl rfl)))) (pg_name (i := 1) sc.nd rfl (by first | exact Or.inl rfl | exact Or.inr rfl)) (pss_one (ps_if (pt_chain op_uLt op_uLt pe_int (pe_ix ix_seq (pe_fld (pe_fld (pv 0) rfl) rfl) (pv 1) (fun _ _ => rfl)) (pe_fld (pe_fld (pv 0) rfl) rfl)) (pss_one (ps_ret (pv 1))) pss_nil)))
      (pss_one (ps_ret pe_non))), ?_⟩
    walk_at "begin"
    refine x_seq ?_
    walk_at "go"
    refine x_mPGood hP fun p H1 hs1 hp1 hn1 => ?_
    have hP1 := hP.mono hs1
    have ho := hP1.obj
    have hot := hP1.terms
    have hob := hP1.book.obj
    have hfl := hP1.book.fl
    have zf := hP1.bok.fil
    have es := hP1.same
    unfold plainF at ho
    unfold termF at hot
    unfold bookF at hob
    refine x_frL (SqL.of hn1) (fun i σ H' => H' = H1 ∧ (∃ v1 : Option V, σ = [some (.ref r), v1]) ∧ partO c k = ((goodL c).drop i).find? fun n => decide (0 < k.fil.getD n 0) && decide (k.fil.getD n 0 < c.p)) ⟨rfl, ⟨_, rfl⟩, rfl⟩ (fun i σ H' _ h => by rw [h.1]; exact SqL.of hn1) ?_ ?_
    · intro i x σ H' hx ⟨hH, ⟨v1, hσ⟩, hpo⟩
      subst hσ hH
      rw [List.getElem?_map] at hx
      cases he : (goodL c)[i]? with
      | none => rw [he] at hx; simp at hx
      | some n =>
        rw [he] at hx
        simp at hx
        subst hx
        obtain ⟨hil, e1⟩ := List.getElem?_eq_some_iff.mp he
        rw [List.drop_eq_getElem_cons hil, e1, List.find?_cons] at hpo
        have hn := List.mem_range.mp (List.mem_filter.mp (List.mem_of_getElem? he)).1
        have hn2 : ((n : Nat) : Int) < k.fil.length := by omega
        walk_at "go"
        rw [Int.toNat_natCast]
        refine x_iteD (fun h1 => ?_) (fun h1 => ?_)
        · rw [decide_eq_true h1, Bool.true_and] at hpo
          walk_at "go"
          rw [es.2.1]
          refine x_iteD (fun h2 => ?_) (fun h2 => ?_)
          · rw [decide_eq_true h2] at hpo
            walk_at "go"
            have := q H' hs1
            rw [hpo] at this
            exact this
          · rw [decide_eq_false h2] at hpo
            walk_at "go"
            exact ⟨rfl, ⟨_, rfl⟩, hpo⟩
        · rw [decide_eq_false h1, Bool.false_and] at hpo
          walk_at "go"
          exact ⟨rfl, ⟨_, rfl⟩, hpo⟩
    · intro σ H' ⟨hH, ⟨v1, hσ⟩, hpo⟩
      subst hσ hH
      rw [List.length_map, List.drop_length] at hpo
      walk_at "go"
      have := q H' hs1
      rw [hpo] at this
      exact this
theorem x_mPPart {T : Txt K mg} {H : Hp} {Q : VK} {E : XK} {σ : L2.St} {r : Addr} {P0 : PF} {t : Ts} {c : Cs} {k : Bk} (hP : PlainAt T H r P0 t c k) (q : ∀ H', Same H H' → Q (oV (partO c k)) H') : mtK P w K mg base (L2.CX P w) 6 "part" E σ tNil Q (.ref r) H :=
  x_mtK hP.obj ⟨⟨_, _, _, T.cl_Plain, T.m_Plain_part, ok_Plain_part T, T.bd_Plain_part⟩⟩ rfl ⟨r, P0, t, c, k, rfl, hP, q⟩
/-- the good clear blocks, with how often each was cleared -/
def freeP (c : Cs) (k : Bk) : List (Int × Int) := ((goodL c).filter fun n => decide (k.fil.getD n 0 = 0)).map fun n : Nat => (c.clr.getD n 0, (n : Int))
def spFree (T : Txt K mg) : Sp := fun vs H Q _ => ∃ (r : Addr) (P : PF) (t : Ts) (c : Cs) (k : Bk), vs = [.ref r] ∧ PlainAt T H r P t c k ∧ ∀ p H', Same H H' → H p = none → H' p = some (.lst ((sortP (freeP c k)).map fun e => V.int e.2)) → Q (.ref p) H'
def freeQ (c : Cs) (k : Bk) (ns : List Nat) : List (Int × Int) := (ns.filter fun n => decide (k.fil.getD n 0 = 0)).map fun n : Nat => (c.clr.getD n 0, (n : Int))
theorem freeQ_snoc {c : Cs} {k : Bk} {ns : List Nat} {n : Nat} : freeQ c k (ns ++ [n]) = if k.fil.getD n 0 = 0 then freeQ c k ns ++ [(c.clr.getD n 0, (n : Int))] else freeQ c k ns := by
  unfold freeQ
  rw [List.filter_append]
  split
  · rename_i h
    rw [show [n].filter (fun n => decide (k.fil.getD n 0 = 0)) = [n] by rw [List.filter_cons, if_pos (decide_eq_true h)]; rfl, List.map_append]
    rfl
  · rename_i h
    rw [show [n].filter (fun n => decide (k.fil.getD n 0 = 0)) = [] by rw [List.filter_cons, if_neg (by rw [decide_eq_false h]; decide)]; rfl, List.append_nil]
theorem ok_Plain_free (T : Txt K mg) : FO P w K mg base 6 T.a_Plain_free T.fd_Plain_free ["self"] (spFree T) := by
  have sc := sc_Plain_free
  refine T.F_Plain_free.okX sc (fun vs H Q E h => ?_) (fun cdv A outer s H vs Q E hr h => ?_)
  · obtain ⟨_, _, _, _, _, rfl, _⟩ := h
    rfl
  · obtain ⟨r, P0, t, c, k, rfl, hP, q⟩ := h
    refine ⟨_, (pss_cons (ps_set (i := 1) sc.nd rfl (by first | exact Or.inl rfl | exact Or.inr rfl) (pe_lst pa_nil))
      (pss_cons (ps_for (passes_of rfl) rfl (pi_list (pe_methD0 (k := 5) (pv 0) (hr.mono (by decide)) (passAt (takes_of rfl rfl rfl rfl)))) (pg_name (i := 2) sc.nd rfl (by first | exact Or.inl rfl | exact Or.inr rfl)) (pss_one (ps_if (pt_cmpR (op_uEq hr.units) (pe_ix ix_seq (pe_fld (pe_fld (pv 0) rfl) rfl) (pv 2) (fun _ _ => rfl)) pe_int (nomark _)) (pss_one (ps_expr (pe_bm PySem.F.plainAttrs_list PySem.F.slot_list_append PySem.F.type_list_append mt_append (pv 1) (pa_cons (pe_tup (pa_cons (pe_methD (k := 4) (pe_fld (pv 0) rfl) (hr.mono (by decide)) (passAt (takes_of rfl rfl rfl rfl)) (pa_cons (pv 2) pa_nil)) (pa_cons (pv 2) pa_nil))) pa_nil)))) pss_nil)))
      (pss_one (ps_ret (pe_lc (own := [("times", 3), ("block", 2)]) (by rfl) sc.nd (pi_list (pe_callB (cr_usorted) (by rfl) T.b_sorted bt_sorted (pa_cons (pv 1) pa_nil))) (blkOk_by (own := [("times", 3), ("block", 2)]) (N := N_Plain_free) (sc := defScope s_Plain_free) (by decide +kernel)) (fun _ _ _ _ _ => (K_gtup (K := K) (n := 2) (by rfl) (pgs_cons (pg_name (i := 3) sc.nd rfl (by first | exact Or.inl rfl | exact Or.inr rfl)) (pgs_cons (pg_name (i := 2) sc.nd rfl (by first | exact Or.inl rfl | exact Or.inr rfl)) pgs_nil)))) (fun _ _ _ _ _ => pts_nil) (fun _ _ _ _ _ => (pv 2))))))), ?_⟩
    walk_at "begin"
    walk_at "go"
    rename_i p H1 hp hs1 hn1
    refine x_seq ?_
    walk_at "go"
    have hP1 := hP.mono hs1
    refine x_mPGood hP1 fun g H2 hs2 hg2 hn2 => ?_
    have hpne : p ≠ g := ne_of_none hn1 hg2
    have sHp : Same H H2 := hs1.trans hs2
    walk_at "go"
    refine x_frL (SqL.of hn2) (fun i σ H' => Same H H' ∧ H' g = some (.lst ((goodL c).map fun n : Nat => V.int (n : Int))) ∧ (∃ v2 : Option V, σ = [some (.ref r), some (.ref p), v2, none]) ∧ ∃ xs, H' p = some (.lst xs) ∧ PairL H' xs (freeQ c k ((goodL c).take i)))
      ⟨sHp, hn2, ⟨_, rfl⟩, [], hs2 _ _ hn1, PairL.nil⟩ (fun i σ H' _ h => SqL.of h.2.1) ?_ ?_
    · intro i x σ H' hx ⟨sH, hg', ⟨v2, hσ⟩, xs, hxs, hpl⟩
      subst hσ
      rw [List.getElem?_map] at hx
      cases he : (goodL c)[i]? with
      | none => rw [he] at hx; simp at hx
      | some n =>
        rw [he] at hx
        simp at hx
        subst hx
        have hP' := hP.mono sH
        have ho := hP'.obj
        have hob := hP'.book.obj
        have hfl := hP'.book.fl
        have zf := hP'.bok.fil
        have es := hP'.same
        unfold plainF at ho
        unfold bookF at hob
        have hn := List.mem_range.mp (List.mem_filter.mp (List.mem_of_getElem? he)).1
        have hn2 : ((n : Nat) : Int) < k.fil.length := by omega
        have hxl : xs.length < sizeLine := Nat.lt_of_le_of_lt (show xs.length ≤ 1000 by
          rw [hpl.1]
          unfold freeQ
          rw [List.length_map]
          have l1 := List.length_filter_le (fun n => decide (k.fil.getD n 0 = 0)) ((goodL c).take i)
          have l2 := List.length_take_le i (goodL c)
          have l3 : (goodL c).length ≤ c.b.toNat := by
            unfold goodL
            have := List.length_filter_le (fun n => !c.broken.getD n false) (List.range c.b.toNat)
            rw [List.length_range] at this
            exact this
          have l4 : ((goodL c).take i).length ≤ (goodL c).length := by rw [List.length_take]; exact Nat.min_le_right _ _
          have := hP'.chip.sz.b
          omega) (by decide)
        have hcb := hP'.chip.sz.b
        rw [List.take_add_one, he]
        show _
        walk_at "go"
        rw [Int.toNat_natCast]
        refine x_iteD (fun h1 => ?_) (fun h1 => ?_)
        · walk_at "go"
          refine x_mCleared hP'.chip ?_
          walk_at "go"
          refine x_cleared hP'.chip ?_ ⟨by omega, by omega⟩
          rw [Int.toNat_natCast]
          walk_at "go"
          rename_i t1 H4 ht1 hs4 hn4 H5 hO5 hI5
          have hxs4 := hs4 _ _ hxs
          have tS := hO5.tupsL hxs4
          refine ⟨Off.same1 (sH.trans hs4) hO5 hp, hO5.at (hs4 _ _ hg') (nin_of hpne.symm), ⟨_, rfl⟩, _, hI5, ?_⟩
          show PairL H5 _ (freeQ c k ((goodL c).take i ++ [n]))
          rw [freeQ_snoc, if_pos h1]
          exact ((hpl.mono (TupS.of hs4)).mono tS).snoc ⟨t1, rfl, tS _ _ hn4⟩
        · walk_at "go"
          refine ⟨sH, hg', ⟨_, rfl⟩, xs, hxs, ?_⟩
          show PairL _ _ (freeQ c k ((goodL c).take i ++ [n]))
          rw [freeQ_snoc, if_neg h1]
          exact hpl
    · intro σ H' ⟨sH, hg', ⟨v2, hσ⟩, xs, hxs, hpl⟩
      subst hσ
      rw [List.length_map, List.take_length] at hpl
      walk_at "go"
      refine x_sortP (SqL.of hxs) hpl fun q1 ys H3 hq1 hs3 hn3 hpl3 => ?_
      walk_at "go"
      have hyl : ys.length < sizeLine := Nat.lt_of_le_of_lt (show ys.length ≤ 1000 by
        rw [hpl3.1, (sortP_perm _).length_eq]
        unfold freeQ
        rw [List.length_map]
        have l1 := List.length_filter_le (fun n => decide (k.fil.getD n 0 = 0)) (goodL c)
        have l3 : (goodL c).length ≤ c.b.toNat := by
          unfold goodL
          have := List.length_filter_le (fun n => !c.broken.getD n false) (List.range c.b.toNat)
          rw [List.length_range] at this
          exact this
        have := hP.chip.sz.b
        omega) (by decide)
      refine x_lcLK (SqL.of hn3) (fun i acc H' => acc = ((sortP (freeQ c k (goodL c))).take i).map fun e => V.int e.2) (fun i acc H H' _ h => h) hyl rfl ?_ ?_
      · intro i x acc H4 hx hs4 ha NY NN hY hN
        have hil := (List.getElem?_eq_some_iff.mp hx).1
        obtain ⟨e, he⟩ : ∃ e, (sortP (freeQ c k (goodL c)))[i]? = some e := ⟨_, List.getElem?_eq_getElem (by have := hpl3.1; omega)⟩
        obtain ⟨t1, rfl, ht1⟩ := hpl3.2 i x e hx he
        have ht4 := hs4 _ _ ht1
        refine x_gtup2 (SqT.of ht4) ?_
        dsimp only [wipe, List.set]
        refine ⟨rfl, ?_⟩
        walk_at "go"
        refine hY _ _ (fun _ _ h => h) ?_
        show acc ++ _ = ((sortP (freeQ c k (goodL c))).take (i + 1)).map fun e => V.int e.2
        rw [List.take_add_one, he, ha, List.map_append]
        rfl
      · intro p2 acc H4 hp2 hs4 hn4 ha
        rw [ha, hpl3.1, List.take_length] at hn4
        have s34 : Same H H3 := sH.trans hs3
        exact q p2 H4 (s34.trans hs4) (same_none s34 hp2) hn4
theorem x_mPFree {T : Txt K mg} {H : Hp} {Q : VK} {E : XK} {σ : L2.St} {r : Addr} {P0 : PF} {t : Ts} {c : Cs} {k : Bk} (hP : PlainAt T H r P0 t c k) (q : ∀ p H', Same H H' → H p = none → H' p = some (.lst ((sortP (freeP c k)).map fun e => V.int e.2)) → Q (.ref p) H') : mtK P w K mg base (L2.CX P w) 6 "free" E σ tNil Q (.ref r) H :=
  x_mtK hP.obj ⟨⟨_, _, _, T.cl_Plain, T.m_Plain_free, ok_Plain_free T, T.bd_Plain_free⟩⟩ rfl ⟨r, P0, t, c, k, rfl, hP, q⟩

theorem x_eqNilI {H : Hp} {p q : Addr} {ns : List Int} {Q : VK} (h1 : H p = some (.lst (ns.map V.int))) (h2 : H q = some (.lst [])) (k : Q (.bl ns.isEmpty) H) : uEq K (.ref p) (.ref q) H Q := by
  refine x_eqD (d := .list (ns.map PyData.int)) (.lst (SqL.of h1) dpInts) (.lst (SqL.of h2) .nil) (Sh.list (k := 8) fun d h => ?_) (Sh.list (k := 8) fun d h => by simp at h) ?_
  · obtain ⟨n, _, rfl⟩ := List.mem_map.mp h
    exact Sh.int
  · cases ns with
    | nil => exact k
    | cons n ns => exact k
theorem freeP_mem {c : Cs} {k : Bk} {e : Int × Int} (h : e ∈ sortP (freeP c k)) : ∃ n : Nat, e = (c.clr.getD n 0, (n : Int)) ∧ n < c.b.toNat ∧ k.fil.getD n 0 = 0 ∧ c.broken.getD n false = false := by
  have h2 := (sortP_perm _).mem_iff.mp h
  unfold freeP at h2
  obtain ⟨n, hn, rfl⟩ := List.mem_map.mp h2
  have hf := List.mem_filter.mp hn
  have hg := List.mem_filter.mp hf.1
  exact ⟨n, rfl, List.mem_range.mp hg.1, of_decide_eq_true hf.2, by simpa using hg.2⟩
theorem partO_mem {c : Cs} {k : Bk} {n : Nat} (h : partO c k = some n) : n < c.b.toNat ∧ 0 < k.fil.getD n 0 ∧ k.fil.getD n 0 < c.p ∧ c.broken.getD n false = false := by
  unfold partO at h
  have h1 := List.find?_some h
  have h2 := List.mem_filter.mp (List.mem_of_find?_eq_some h)
  rw [Bool.and_eq_true] at h1
  exact ⟨List.mem_range.mp h2.1, of_decide_eq_true h1.1, of_decide_eq_true h1.2, by simpa using h2.2⟩
/-- the block that is put next -/
def nextO (c : Cs) (k : Bk) : Option Nat := match partO c k with
  | some n => some n
  | none => (sortP (freeP c k)).head?.map fun e => e.2.toNat
def spotO (c : Cs) (k : Bk) : Option Int := (nextO c k).map fun n : Nat => (n : Int) * c.p + k.fil.getD n 0
def iV : Option Int → V
  | none => .non
  | some n => .int n
def spSpot (T : Txt K mg) : Sp := fun vs H Q _ => ∃ (r : Addr) (P : PF) (t : Ts) (c : Cs) (k : Bk), vs = [.ref r] ∧ PlainAt T H r P t c k ∧ ∀ H', Same H H' → Q (iV (spotO c k)) H'
theorem ok_Plain_spot (T : Txt K mg) : FO P w K mg base 7 T.a_Plain_spot T.fd_Plain_spot ["self"] (spSpot T) := by
  have sc := sc_Plain_spot
  refine T.F_Plain_spot.okX sc (fun vs H Q E h => ?_) (fun cdv A outer s H vs Q E hr h => ?_)
  · obtain ⟨_, _, _, _, _, rfl, _⟩ := h
    rfl
  · obtain ⟨r, P0, t, c, k, rfl, hP, q⟩ := h
    refine ⟨_, (pss_cons (ps_set (i := 1) sc.nd rfl (by first | exact Or.inl rfl | exact Or.inr rfl) (pe_methD0 (k := 6) (pv 0) (hr.mono (by decide)) (passAt (takes_of rfl rfl rfl rfl))))
      (pss_cons (ps_if (pt_cmpR op_uIs (pv 1) pe_non (nomark _)) (pss_cons (ps_set (i := 2) sc.nd rfl (by first | exact Or.inl rfl | exact Or.inr rfl) (pe_methD0 (k := 6) (pv 0) (hr.mono (by decide)) (passAt (takes_of rfl rfl rfl rfl))))
      (pss_cons (ps_if (pt_cmpR (op_uEq hr.units) (pv 2) (pe_lst pa_nil) (nomark _)) (pss_one (ps_ret pe_non)) pss_nil)
      (pss_one (ps_set (i := 1) sc.nd rfl (by first | exact Or.inl rfl | exact Or.inr rfl) (pe_ix ix_seq (pv 2) pe_int (fun _ _ => rfl)))))) pss_nil)
      (pss_one (ps_ret (pe_op op_uAdd (pe_op op_uMul (pv 1) (pe_fld (pe_fld (pv 0) rfl) rfl)) (pe_ix ix_seq (pe_fld (pe_fld (pv 0) rfl) rfl) (pv 1) (fun _ _ => rfl))))))), ?_⟩
    unfold spotO nextO at q
    walk_at "begin"
    walk_at "go"
    refine x_mPPart hP fun H1 hs1 => ?_
    have hP1 := hP.mono hs1
    walk_at "go"
    refine x_join (fun σ' H2 => Same H H2 ∧ ∃ (n : Nat) (v2 : Option V), n < c.b.toNat ∧ σ' = [some (.ref r), some (.int (n : Int)), v2] ∧ ∀ H', Same H H' → Q (.int ((n : Int) * c.p + k.fil.getD n 0)) H') (fun R hR => ?_) ?_
    · walk_at "go"
      cases hpo : partO c k with
      | some n =>
        rw [hpo] at q
        refine iteF ?_
        walk_at "go"
        exact hR _ _ ⟨hs1, n, _, (partO_mem hpo).1, rfl, q⟩
      | none =>
        rw [hpo] at q
        refine iteT ?_
        walk_at "go"
        refine x_mPFree hP1 fun p H2 hs2 hp2 hn2 => ?_
        have hn22 : H2 p = some (.lst (((sortP (freeP c k)).map (·.2)).map V.int)) := by rw [List.map_map]; exact hn2
        walk_at "go"
        walk_at "if"
        rename_i p3 H3 hp3 hs3 hn3
        refine x_eqNilI (hs3 _ _ hn22) hn3 ?_
        have s13 : Same H H3 := (hs1.trans hs2).trans hs3
        cases hl : sortP (freeP c k) with
        | nil =>
          rw [hl] at q
          walk_at "go"
          refine iteT ?_
          walk_at "go"
          exact q H3 s13
        | cons e l =>
          obtain ⟨n, he, hn, _⟩ := freeP_mem (show e ∈ sortP (freeP c k) by rw [hl]; exact List.mem_cons_self)
          rw [hl, he] at q
          rw [hl, he] at hn2
          have hn3' := hs3 _ _ hn2
          walk_at "go"
          refine iteF ?_
          walk_at "go"
          refine hR _ _ ⟨s13, n, _, hn, rfl, fun H' h => ?_⟩
          have := q H' h
          simp only [List.head?_cons, Option.map_some, Int.toNat_natCast] at this
          exact this
    intro σ' H2 ⟨hs2, n, v2, hn, hσ, q2⟩
    subst hσ
    have hP2 := hP.mono hs2
    have ho := hP2.obj
    have hot := hP2.terms
    have hob := hP2.book.obj
    have hfl := hP2.book.fl
    have zf := hP2.bok.fil
    have es := hP2.same
    unfold plainF at ho
    unfold termF at hot
    unfold bookF at hob
    have hn2 : ((n : Nat) : Int) < k.fil.length := by omega
    have hbb := hP2.chip.sz.b
    have hpp := hP2.chip.sz.p
    have hs0 : ((n : Nat) : Int).natAbs < 2 ^ 250 ∧ t.p.natAbs < 2 ^ 250 := ⟨by omega, by omega⟩
    walk_at "go"
    rw [Int.toNat_natCast, es.2.1]
    exact q2 _ hs2
theorem x_mPSpot {T : Txt K mg} {H : Hp} {Q : VK} {E : XK} {σ : L2.St} {r : Addr} {P0 : PF} {t : Ts} {c : Cs} {k : Bk} (hP : PlainAt T H r P0 t c k) (q : ∀ H', Same H H' → Q (iV (spotO c k)) H') : mtK P w K mg base (L2.CX P w) 7 "spot" E σ tNil Q (.ref r) H :=
  x_mtK hP.obj ⟨⟨_, _, _, T.cl_Plain, T.m_Plain_spot, ok_Plain_spot T, T.bd_Plain_spot⟩⟩ rfl ⟨r, P0, t, c, k, rfl, hP, q⟩
def spRes : Sp := fun vs H Q _ => ∃ v, vs = [v] ∧ Q (.int 0) H
theorem ok_Plain_reserve (T : Txt K mg) : FO P w K mg base 1 T.a_Plain_reserve T.fd_Plain_reserve ["self"] spRes := by
  have sc := sc_Plain_reserve
  refine T.F_Plain_reserve.okX sc (fun vs H Q E h => ?_) (fun cdv A outer s H vs Q E hr h => ?_)
  · obtain ⟨_, rfl, _⟩ := h
    rfl
  · obtain ⟨v, rfl, q⟩ := h
    refine ⟨_, (pss_one (ps_ret pe_int)), ?_⟩
    walk_at "begin"
    walk_at "go"
    exact q
theorem x_mPRes {T : Txt K mg} {H : Hp} {Q : VK} {E : XK} {σ : L2.St} {r : Addr} {P0 : PF} {t : Ts} {c : Cs} {k : Bk} (hP : PlainAt T H r P0 t c k) (q : Q (.int 0) H) : mtK P w K mg base (L2.CX P w) 1 "reserve" E σ tNil Q (.ref r) H :=
  x_mtK hP.obj ⟨⟨_, _, _, T.cl_Plain, T.m_Plain_reserve, ok_Plain_reserve T, T.bd_Plain_reserve⟩⟩ rfl ⟨_, rfl, q⟩
def spReady (T : Txt K mg) : Sp := fun vs H Q _ => ∃ (r : Addr) (P : PF) (t : Ts) (c : Cs) (k : Bk), vs = [.ref r] ∧ PlainAt T H r P t c k ∧ ∀ H', Same H H' → Q (.bl (nextO c k).isSome) H'
theorem ok_Plain_ready (T : Txt K mg) : FO P w K mg base 7 T.a_Plain_ready T.fd_Plain_ready ["self"] (spReady T) := by
  have sc := sc_Plain_ready
  refine T.F_Plain_ready.okX sc (fun vs H Q E h => ?_) (fun cdv A outer s H vs Q E hr h => ?_)
  · obtain ⟨_, _, _, _, _, rfl, _⟩ := h
    rfl
  · obtain ⟨r, P0, t, c, k, rfl, hP, q⟩ := h
    refine ⟨_, (pss_cons (ps_set (i := 1) sc.nd rfl (by first | exact Or.inl rfl | exact Or.inr rfl) (pe_callB (cr_ulen) (by rfl) T.b_len bt_len (pa_cons (pe_methD0 (k := 6) (pv 0) (hr.mono (by decide)) (passAt (takes_of rfl rfl rfl rfl))) pa_nil)))
      (pss_cons (ps_if (pt_cmpR op_uIs (pe_methD0 (k := 6) (pv 0) (hr.mono (by decide)) (passAt (takes_of rfl rfl rfl rfl))) pe_non (nomark _)) (pss_one (ps_ret (pe_cmpR op_gt (pv 1) (pe_methD0 (k := 1) (pv 0) (hr.mono (by decide)) (passAt (takes_of rfl rfl rfl rfl))) (nomark _)))) pss_nil)
      (pss_one (ps_ret (pe_cmpR op_ge (pv 1) (pe_methD0 (k := 1) (pv 0) (hr.mono (by decide)) (passAt (takes_of rfl rfl rfl rfl))) (nomark _)))))), ?_⟩
    unfold nextO at q
    walk_at "begin"
    walk_at "go"
    refine x_mPFree hP fun p H1 hs1 hp1 hn1 => ?_
    have hP1 := hP.mono hs1
    walk_at "go"
    walk_at "if"
    refine x_mPPart hP1 fun H2 hs2 => ?_
    have hP2 := hP1.mono hs2
    have s02 := hs1.trans hs2
    walk_at "go"
    cases hpo : partO c k with
    | some n =>
      rw [hpo] at q
      refine iteF ?_
      walk_at "go"
      refine x_mPRes hP2 ?_
      walk_at "go"
      rw [decide_eq_true (Int.natCast_nonneg _)]
      exact q H2 s02
    | none =>
      rw [hpo] at q
      refine iteT ?_
      walk_at "go"
      refine x_mPRes hP2 ?_
      walk_at "go"
      cases hl : sortP (freeP c k) with
      | nil =>
        rw [hl] at q
        exact q H2 s02
      | cons e l =>
        rw [hl] at q
        rw [decide_eq_true (show (0 : Int) < ((e :: l).length : Nat) by rw [List.length_cons]; omega)]
        exact q H2 s02
theorem x_mPReady {T : Txt K mg} {H : Hp} {Q : VK} {E : XK} {σ : L2.St} {r : Addr} {P0 : PF} {t : Ts} {c : Cs} {k : Bk} (hP : PlainAt T H r P0 t c k) (q : ∀ H', Same H H' → Q (.bl (nextO c k).isSome) H') : mtK P w K mg base (L2.CX P w) 7 "ready" E σ tNil Q (.ref r) H :=
  x_mtK hP.obj ⟨⟨_, _, _, T.cl_Plain, T.m_Plain_ready, ok_Plain_ready T, T.bd_Plain_ready⟩⟩ rfl ⟨r, P0, t, c, k, rfl, hP, q⟩
def spMakeReady (T : Txt K mg) : Sp := fun vs H Q E => ∃ (r : Addr) (P : PF) (t : Ts) (c : Cs) (k : Bk), vs = [.ref r] ∧ PlainAt T H r P t c k ∧ ((nextO c k).isSome = true → ∀ H', Same H H' → Q .non H') ∧ ((nextO c k).isSome = false → ∀ H', Same H H' → E (.ref T.C_NoRoom) none H')
theorem ok_Plain_make_ready (T : Txt K mg) : FO P w K mg base 8 T.a_Plain_make_ready T.fd_Plain_make_ready ["self"] (spMakeReady T) := by
  have sc := sc_Plain_make_ready
  refine T.F_Plain_make_ready.okX sc (fun vs H Q E h => ?_) (fun cdv A outer s H vs Q E hr h => ?_)
  · obtain ⟨_, _, _, _, _, rfl, _⟩ := h
    rfl
  · obtain ⟨r, P0, t, c, k, rfl, hP, q1, q2⟩ := h
    refine ⟨_, (pss_one (ps_if (pt_not (pt_truth (pe_methD0 (k := 7) (pv 0) (hr.mono (by decide)) (passAt (takes_of rfl rfl rfl rfl))) (by intro _; rfl))) (pss_one (ps_raiseK rfl (takes_of rfl rfl rfl rfl) (pmk_ownK T.xc_NoRoom T.g_NoRoom rfl))) pss_nil)), ?_⟩
    walk_at "begin"
    walk_at "go"
    refine x_mPReady hP fun H1 hs1 => ?_
    walk_at "go"
    refine x_iteB (fun h => ?_) (fun h => ?_)
    · walk_at "go"
      exact q1 h H1 hs1
    · walk_at "go"
      exact q2 h H1 hs1
theorem x_mPMakeReady {T : Txt K mg} {H : Hp} {Q : VK} {E : XK} {σ : L2.St} {r : Addr} {P0 : PF} {t : Ts} {c : Cs} {k : Bk} (hP : PlainAt T H r P0 t c k) (q1 : (nextO c k).isSome = true → ∀ H', Same H H' → Q .non H') (q2 : (nextO c k).isSome = false → ∀ H', Same H H' → E (.ref T.C_NoRoom) none H') : mtK P w K mg base (L2.CX P w) 8 "make_ready" E σ tNil Q (.ref r) H :=
  x_mtK hP.obj ⟨⟨_, _, _, T.cl_Plain, T.m_Plain_make_ready, ok_Plain_make_ready T, T.bd_Plain_make_ready⟩⟩ rfl ⟨r, P0, t, c, k, rfl, hP, q1, q2⟩
theorem spotO_rng {c : Cs} {k : Bk} (hp : 1 ≤ c.p) {pg : Int} (h : spotO c k = some pg) : 0 ≤ pg ∧ pg < c.b * c.p ∧ ∃ n : Nat, nextO c k = some n ∧ pg = (n : Int) * c.p + k.fil.getD n 0 ∧ n < c.b.toNat ∧ 0 ≤ k.fil.getD n 0 ∧ k.fil.getD n 0 < c.p ∧ c.broken.getD n false = false := by
  unfold spotO at h
  cases hn : nextO c k with
  | none => rw [hn] at h; cases h
  | some n =>
    rw [hn] at h
    have e : pg = (n : Int) * c.p + k.fil.getD n 0 := by injection h with h; exact h.symm
    have hf : n < c.b.toNat ∧ 0 ≤ k.fil.getD n 0 ∧ k.fil.getD n 0 < c.p ∧ c.broken.getD n false = false := by
      unfold nextO at hn
      cases hpo : partO c k with
      | some m =>
        rw [hpo] at hn
        have hm : m = n := by injection hn
        obtain ⟨h1, h2, h3, h4⟩ := partO_mem hpo
        rw [← hm]
        exact ⟨h1, by omega, h3, h4⟩
      | none =>
        rw [hpo] at hn
        cases hl : sortP (freeP c k) with
        | nil => rw [hl] at hn; cases hn
        | cons e l =>
          obtain ⟨m, he, h1, h2, h3⟩ := freeP_mem (show e ∈ sortP (freeP c k) by rw [hl]; exact List.mem_cons_self)
          rw [hl, he] at hn
          have hm : m = n := by
            simp only [List.head?_cons, Option.map_some, Int.toNat_natCast] at hn
            injection hn
          rw [← hm]
          exact ⟨h1, by omega, by omega, h3⟩
    obtain ⟨h1, h2, h3, h4⟩ := hf
    have m0 : 0 ≤ (n : Int) * c.p := Int.mul_nonneg (by omega) (by omega)
    have m1 : (n : Int) * c.p ≤ (c.b - 1) * c.p := Int.mul_le_mul_of_nonneg_right (by omega) (by omega)
    have m2 : c.b * c.p = (c.b - 1) * c.p + c.p := by rw [Int.sub_mul, Int.one_mul]; omega
    exact ⟨by omega, by omega, n, rfl, e, h1, h2, h3, h4⟩
theorem putR_bp {c : Cs} {o : Option Int} {v : V} : (c.putR o v).2.b = c.b ∧ (c.putR o v).2.p = c.p := by
  unfold Cs.putR
  repeat' split
  all_goals exact ⟨rfl, rfl⟩
theorem note_bp {k : Bk} {pg n : Int} : (k.note pg n).b = k.b ∧ (k.note pg n).p = k.p := ⟨drop_b, drop_p⟩
theorem x_mPutP {T : Txt K mg} {H : Hp} {Q : VK} {E : XK} {r : Addr} {F : CF} {c : Cs} {n : Int} {v : V} (hC : ChipAt T.C_Chip H r F c) (hll : c.log.length < 900000) (q : ∀ H', Off (F.all r) H H' → ChipAt T.C_Chip H' r F (c.putR (some n) v).2 → Fin T (c.putR (some n) v).1 (Q .non) E H') : spPut T [.ref r, .int n, v] H Q E := ⟨r, F, c, _, v, some n, rfl, hC, .int n, hll, q⟩
def spSetDown (T : Txt K mg) : Sp := fun vs H Q E => ∃ (r : Addr) (P : PF) (t : Ts) (c : Cs) (k : Bk) (n : Int) (v : V), vs = [.ref r, .int n, v] ∧ PlainAt T H r P t c k ∧ 0 ≤ n ∧ n < 128 ∧ c.log.length < 900000 ∧ k.wh.length < 900 ∧ k.stamp + 1 < 10 ^ 40 ∧
  (spotO c k = none → ∀ H', Same H H' → E (.ref T.C_NoRoom) none H') ∧
  (∀ pg, spotO c k = some pg → ∀ (a : Addr) (H1 : Hp), Same H H1 → H a = none → H1 a = some (.tup [.int (mk k.stamp n), v]) →
    ∀ H', Off P.mut H1 H' → (((c.putR (some pg) (.ref a)).1 = .ok ∧ (PlainAt T H' r P t (c.putR (some pg) (.ref a)).2 (k.note pg n) → Q (.int pg) H')) ∨
      ((c.putR (some pg) (.ref a)).1 = .dark ∧ (PlainAt T H' r P t (c.putR (some pg) (.ref a)).2 k → E (.ref T.C_PowerGone) none H')) ∨
      (∃ b, (c.putR (some pg) (.ref a)).1 = .failed b ∧ (PlainAt T H' r P t (c.putR (some pg) (.ref a)).2 k → ∀ d, H' d = some (.xd [("block", .int b)]) → E (.ref T.C_BlockFailed) (some d) H'))))
theorem ok_Plain_set_down (T : Txt K mg) : FO P w K mg base 8 T.a_Plain_set_down T.fd_Plain_set_down ["self", "name", "value"] (spSetDown T) := by
  have sc := sc_Plain_set_down
  refine T.F_Plain_set_down.okX sc (fun vs H Q E h => ?_) (fun cdv A outer s H vs Q E hr h => ?_)
  · obtain ⟨_, _, _, _, _, _, _, rfl, _⟩ := h
    rfl
  · obtain ⟨r, P0, t, c, k, n, v, rfl, hP, h0, h1, hll, hwl, hst, q1, q2⟩ := h
    refine ⟨_, (pss_cons (ps_set (i := 3) sc.nd rfl (by first | exact Or.inl rfl | exact Or.inr rfl) (pe_methD0 (k := 7) (pv 0) (hr.mono (by decide)) (passAt (takes_of rfl rfl rfl rfl))))
      (pss_cons (ps_if (pt_cmpR op_uIs (pv 3) pe_non (nomark _)) (pss_one (ps_raiseK rfl (takes_of rfl rfl rfl rfl) (pmk_ownK T.xc_NoRoom T.g_NoRoom rfl))) pss_nil)
      (pss_cons (ps_expr (pe_methD (k := 4) (pe_fld (pv 0) rfl) (hr.mono (by decide)) (passAt (takes_of rfl rfl rfl rfl)) (pa_cons (pv 3) (pa_cons (pe_tup (pa_cons (pe_methD (k := 2) (pe_fld (pv 0) rfl) (hr.mono (by decide)) (passAt (takes_of rfl rfl rfl rfl)) (pa_cons (pv 1) pa_nil)) (pa_cons (pv 2) pa_nil))) pa_nil))))
      (pss_cons (ps_expr (pe_methD (k := 2) (pe_fld (pv 0) rfl) (hr.mono (by decide)) (passAt (takes_of rfl rfl rfl rfl)) (pa_cons (pv 3) (pa_cons (pv 1) pa_nil))))
      (pss_one (ps_ret (pv 3))))))), ?_⟩
    walk_at "begin"
    walk_at "go"
    refine x_mPSpot hP fun H1 hs1 => ?_
    have hP1 := hP.mono hs1
    have ho := hP1.obj
    unfold plainF at ho
    walk_at "go"
    walk_at "if"
    cases hsp : spotO c k with
    | none =>
      refine iteT ?_
      walk_at "go"
      exact q1 hsp H1 hs1
    | some pg =>
      refine iteF ?_
      have hrg := spotO_rng (c := c) (k := k) hP.chip.sz.p.1 hsp
      have hsm := hP.same
      have hpg : 0 ≤ pg ∧ pg < k.b * k.p := ⟨hrg.1, by rw [hsm.2.2.1, hsm.2.2.2]; exact hrg.2.1⟩
      walk_at "go"
      refine x_mPut hP1.chip ?_
      walk_at "go"
      refine x_mMark hP1.book ?_
      walk_at "go"
      refine ⟨P0.rb, P0.fb, k, n, rfl, hP1.book, hP.bok, h0, h1, ?_⟩
      walk_at "go"
      rename_i a H2 ha hs2 hn2
      have hP2 := hP1.mono hs2
      have s02 := hs1.trans hs2
      have haH : H a = none := same_none hs1 ha
      refine (show spPut T [.ref P0.rc, .int pg, .ref a] H2 _ _ from ?_)
      refine x_mPutP hP2.chip hll fun H3 hO3 hC3 => ?_
      have hP3 := hP2.chipC hO3 hC3 putR_bp
      have hoff3 : Off P0.mut H2 H3 := hO3.sub fun b hb => List.mem_append_left _ hb
      have ho3 := hP3.obj
      unfold plainF at ho3
      rcases q2 pg hsp a H2 s02 haH hn2 H3 hoff3 with ⟨e, _⟩ | ⟨e, q3⟩ | ⟨b, e, q3⟩
      · rw [e]
        refine x_finOk ?_
        dsimp only
        walk_at "go"
        refine x_mNote hP3.book ?_
        walk_at "go"
        refine (show spNote T [.ref P0.rb, .int pg, .int n] H3 _ _ from ?_)
        refine ⟨P0.rb, P0.fb, k, pg, n, rfl, hP3.book, hP.bok, hpg.1, hpg.2, fun H4 hO4 hB4 => ?_⟩
        have hP4 := hP3.bookC hO4 hB4 (hP.bok.note hpg.1 hpg.2 hwl hst) note_bp
        walk_at "go"
        rcases q2 pg hsp a H2 s02 haH hn2 H4 (hoff3.trans (hO4.sub fun b hb => List.mem_append_right _ hb)) with ⟨_, q4⟩ | ⟨e2, _⟩ | ⟨b, e2, _⟩
        · exact q4 hP4
        · rw [e] at e2; cases e2
        · rw [e] at e2; cases e2
      · rw [e]
        exact x_finDark (q3 hP3)
      · rw [e]
        intro d hd
        exact q3 hP3 d hd
theorem x_mPSetDown {T : Txt K mg} {H : Hp} {Q : VK} {E : XK} {σ : L2.St} {r : Addr} {P0 : PF} {t : Ts} {c : Cs} {k : Bk} {ta : TA} (hP : PlainAt T H r P0 t c k) (h : ta σ H fun vs H2 => spSetDown T (.ref r :: vs) H2 Q E) : mtK P w K mg base (L2.CX P w) 8 "set_down" E σ ta Q (.ref r) H :=
  x_mtK hP.obj ⟨⟨_, _, _, T.cl_Plain, T.m_Plain_set_down, ok_Plain_set_down T, T.bd_Plain_set_down⟩⟩ rfl h
theorem ok_Plain_lay (T : Txt K mg) : FO P w K mg base 9 T.a_Plain_lay T.fd_Plain_lay ["self", "name", "value"] (spSetDown T) := by
  have sc := sc_Plain_lay
  refine T.F_Plain_lay.okX sc (fun vs H Q E h => ?_) (fun cdv A outer s H vs Q E hr h => ?_)
  · obtain ⟨_, _, _, _, _, _, _, rfl, _⟩ := h
    rfl
  · obtain ⟨r, P0, t, c, k, n, v, rfl, hP, h0, h1, hll, hwl, hst, q1, q2⟩ := h
    refine ⟨_, (pss_one (ps_ret (pe_methD (k := 8) (pv 0) (hr.mono (by decide)) (passAt (takes_of rfl rfl rfl rfl)) (pa_cons (pv 1) (pa_cons (pv 2) pa_nil))))), ?_⟩
    walk_at "begin"
    walk_at "go"
    refine x_mPSetDown hP ?_
    walk_at "go"
    exact ⟨r, P0, t, c, k, n, v, rfl, hP, h0, h1, hll, hwl, hst, q1, q2⟩
theorem x_mPLay {T : Txt K mg} {H : Hp} {Q : VK} {E : XK} {σ : L2.St} {r : Addr} {P0 : PF} {t : Ts} {c : Cs} {k : Bk} {ta : TA} (hP : PlainAt T H r P0 t c k) (h : ta σ H fun vs H2 => spSetDown T (.ref r :: vs) H2 Q E) : mtK P w K mg base (L2.CX P w) 9 "lay" E σ ta Q (.ref r) H :=
  x_mtK hP.obj ⟨⟨_, _, _, T.cl_Plain, T.m_Plain_lay, ok_Plain_lay T, T.bd_Plain_lay⟩⟩ rfl h

/-! ### what a put makes of a plain store -/
theorem PlainAt.there {T : Txt K mg} {H : Hp} {r : Addr} {P : PF} {t : Ts} {c : Cs} {k : Bk} (h : PlainAt T H r P t c k) : ∀ a ∈ P.mut, ∃ o, H a = some o ∧ ∀ xs, o ≠ .tup xs := fun a ha => by
  unfold PF.mut at ha
  rcases List.mem_append.mp ha with ha | ha
  · exact h.chip.there a ha
  · exact h.book.there a ha
theorem PlainAt.off {T : Txt K mg} {H H' : Hp} {r : Addr} {P : PF} {t : Ts} {c : Cs} {k : Bk} {S : List Addr} (h : PlainAt T H r P t c k) (s : Off S H H') (n : ∀ a, a ∈ P.mut → a ∉ S) (nr : r ∉ S) (nt : P.rt ∉ S) (ht : TupS H H') : PlainAt T H' r P t c k :=
  ⟨s.at h.obj nr, h.chip.off s (fun a ha => n a (List.mem_append_left _ ha)) ht, s.at h.terms nt, h.book.off s (fun a ha => n a (List.mem_append_right _ ha)), h.bok, h.same, h.nr, h.nt, h.cb⟩
theorem put_place {c : Cs} {pg : Int} {n : Nat} {v : V} (h0 : 0 ≤ pg) (h1 : pg < c.b * c.p) (hd : c.dark = false) (hn : pg / c.p = (n : Int)) (hb : c.broken.getD n false = false) (hs : c.stuff.getD pg.toNat .non = .non) :
    c.putR (some pg) v = if c.well n false = true then (.ok, { c.said n true ("put", pg) with stuff := c.stuff.set pg.toNat v }) else (.failed n, c.said n false ("put", pg)) := by
  have hin : inB (some pg) 0 (c.b * c.p - 1) = true := decide_eq_true ⟨h0, by omega⟩
  unfold Cs.putR
  rw [if_neg (by rw [hin]; decide), if_neg (by rw [hd]; decide)]
  simp only [Option.getD_some]
  rw [hn, Int.toNat_natCast, if_neg (by rw [hb]; decide), if_neg (fun z => z hs)]
theorem drop_fil {k : Bk} {n : Int} : (k.drop n).fil = k.fil := by unfold Bk.drop; split <;> rfl
theorem note_fil {k : Bk} {pg n : Int} : (k.note pg n).fil = k.fil.set (pg / k.p).toNat (k.fil.getD (pg / k.p).toNat 0 + 1) := by
  show (k.drop n).fil.set _ ((k.drop n).fil.getD _ 0 + 1) = _
  rw [drop_fil]
theorem note_st {k : Bk} {pg n : Int} : (k.note pg n).stamp = k.stamp + 1 := by
  show (k.drop n).stamp + 1 = _
  rw [drop_st]
theorem note_whl {k : Bk} {pg n : Int} : (k.note pg n).wh.length ≤ k.wh.length + 1 := Nat.le_trans putI_len (Nat.succ_le_succ drop_whl)
theorem getD_set {α : Type} {l : List α} {n m : Nat} {x d : α} (h : n < l.length) : (l.set n x).getD m d = if m = n then x else l.getD m d := by
  by_cases e : m = n
  · subst e
    rw [if_pos rfl, List.getD_eq_getElem?_getD, List.getElem?_set_self h]
    rfl
  · rw [if_neg e, List.getD_eq_getElem?_getD, List.getElem?_set_ne (Ne.symm e), ← List.getD_eq_getElem?_getD]
/-! sums -/
def sumN (w : Nat → Int) : Nat → Int
  | 0 => 0
  | n + 1 => sumN w n + w n
theorem sumN_le {w w' : Nat → Int} : ∀ {B : Nat}, (∀ m, m < B → w' m ≤ w m) → sumN w' B ≤ sumN w B
  | 0, _ => Int.le_refl _
  | B + 1, h => Int.add_le_add (sumN_le fun m hm => h m (by omega)) (h B (by omega))
theorem sumN_lt {w w' : Nat → Int} {n : Nat} : ∀ {B : Nat}, (∀ m, m < B → w' m ≤ w m) → n < B → w' n + 1 ≤ w n → sumN w' B + 1 ≤ sumN w B
  | 0, _, hn, _ => absurd hn (Nat.not_lt_zero _)
  | B + 1, h, hn, hl => by
    show sumN w' B + w' B + 1 ≤ sumN w B + w B
    by_cases e : n = B
    · subst e
      have := sumN_le (w := w) (w' := w') (B := n) fun m hm => h m (by omega)
      omega
    · have h1 := sumN_lt (w := w) (w' := w') (B := B) (n := n) (fun m hm => h m (by omega)) (by omega) hl
      have h2 := h B (by omega)
      omega
theorem sumN_bound {w : Nat → Int} {U : Int} : ∀ {B : Nat}, (∀ m, m < B → w m ≤ U) → sumN w B ≤ B * U
  | 0, _ => by show (0 : Int) ≤ _; simp
  | B + 1, h => by
    have h1 := sumN_bound (w := w) (U := U) (B := B) fun m hm => h m (by omega)
    have h2 := h B (by omega)
    show sumN w B + w B ≤ _
    have e : ((B + 1 : Nat) : Int) * U = B * U + U := by rw [Int.natCast_succ, Int.add_mul, Int.one_mul]
    omega
theorem sumN_nonneg {w : Nat → Int} : ∀ {B : Nat}, (∀ m, m < B → 0 ≤ w m) → 0 ≤ sumN w B
  | 0, _ => Int.le_refl _
  | B + 1, h => Int.add_nonneg (sumN_nonneg fun m hm => h m (by omega)) (h B (by omega))
/-- how much a block can still take, a failing too -/
def wt (c : Cs) (k : Bk) (n : Nat) : Int := if c.broken.getD n false = true then 0 else 1 + c.p - k.fil.getD n 0

/-! ### blocks that fail, told as pairs -/
def setI (is : List (Int × Int)) (l : List V) : List V := is.foldl (fun l e => l.set e.1.toNat (.int e.2)) l
def illF (is : List (Int × Int)) : List (Option Int × Option Int) := is.map fun e => (some e.1, some e.2)
theorem endF_ok {B : Int} : ∀ {is : List (Int × Int)} {l : List V}, (∀ e ∈ is, 0 ≤ e.1 ∧ e.1 < B ∧ 0 ≤ e.2 ∧ e.2 ≤ 1000000) → is.Pairwise (fun a b => a.1 ≠ b.1) → (∀ e ∈ is, l.getD e.1.toNat .non = .non) → endF B (illF is) l = some (setI is l)
  | [], l, _, _, _ => rfl
  | e :: is, l, hr, hp, hn => by
    have h0 := hr e List.mem_cons_self
    have hp2 := List.pairwise_cons.mp hp
    show endF B ((some e.1, some e.2) :: illF is) l = _
    rw [endF_cons, if_pos (show inB (some e.1) 0 (B - 1) = true from decide_eq_true ⟨h0.1, by omega⟩), if_pos (show inB (some e.2) 0 1000000 = true from decide_eq_true ⟨h0.2.2.1, h0.2.2.2⟩)]
    simp only [Option.getD_some]
    rw [if_pos (hn e List.mem_cons_self)]
    refine endF_ok (fun x hx => hr x (List.mem_cons_of_mem _ hx)) hp2.2 (fun x hx => ?_)
    have hx0 := hr x (List.mem_cons_of_mem _ hx)
    have hne := hp2.1 x hx
    rw [List.getD_eq_getElem?_getD, List.getElem?_set_ne (by omega), ← List.getD_eq_getElem?_getD]
    exact hn x (List.mem_cons_of_mem _ hx)
def lastsI (B : Int) (is : List (Int × Int)) : List V := setI is (List.replicate B.toNat .non)
theorem lastsI_snoc {B : Int} {is : List (Int × Int)} {e : Int × Int} : lastsI B (is ++ [e]) = (lastsI B is).set e.1.toNat (.int e.2) := by
  unfold lastsI setI
  rw [List.foldl_append]
  rfl
theorem setI_len {is : List (Int × Int)} : ∀ {l : List V}, (setI is l).length = l.length := by
  unfold setI
  induction is with
  | nil => intro l; rfl
  | cons e is ih =>
    intro l
    rw [List.foldl_cons, ih, List.length_set]
theorem lastsI_len {B : Int} {is : List (Int × Int)} : (lastsI B is).length = B.toNat := by
  unfold lastsI
  rw [setI_len, List.length_replicate]
/-- pairs that may be told to a chip -/
def IllOk (B : Int) (is : List (Int × Int)) : Prop := (∀ e ∈ is, 0 ≤ e.1 ∧ e.1 < B ∧ 0 ≤ e.2 ∧ e.2 ≤ 1000000) ∧ is.Pairwise (fun a b => a.1 ≠ b.1)
theorem _root_.Kit.PairL.ills {H : Hp} {ws : List V} {is : List (Int × Int)} {q : Addr} (h : PairL H ws is) (hq : H q = some (.lst ws) ∨ H q = some (.tup ws)) : IllsAt H (.ref q) (illF is) := by
  refine .inr ⟨q, ws, rfl, hq, by unfold illF; rw [List.length_map]; exact h.1, fun i x e h1 h2 => ?_⟩
  unfold illF at h2
  rw [List.getElem?_map] at h2
  cases he : is[i]? with
  | none => rw [he] at h2; simp at h2
  | some y =>
    rw [he] at h2
    simp at h2
    subst h2
    obtain ⟨t, hx, ht⟩ := h.2 i x y h1 he
    exact ⟨t, _, _, hx, ht, .int _, .int _⟩
theorem x_cinitI {T : Txt K mg} {H H1 : Hp} {Q : VK} {E : XK} {x dx : Addr} {B P mo : Int} {vi : V} {is : List (Int × Int)} (hB : 2 ≤ B ∧ B ≤ 16) (hP : 1 ≤ P ∧ P ≤ 16) (hm : 0 ≤ mo ∧ mo ≤ 1000000) (hx : H x = none) (hs : Same H H1) (hn : H1 x = some (.ins T.C_Chip dx []))
    (hi : IllsAt H1 vi (illF is)) (ok : IllOk B is) (q : ∀ F H', Same H H' → (∀ a ∈ F.all x, H a = none) → ChipAt T.C_Chip H' x F (Cs.new B P mo (lastsI B is)) → Q .non H') : spCInit T [.ref x, .int B, .int P, .int mo, vi] H1 Q E := by
  have e1 : decide (2 ≤ B ∧ B ≤ 16) = true := decide_eq_true hB
  have e2 : decide (1 ≤ P ∧ P ≤ 16) = true := decide_eq_true hP
  have e3 : decide (0 ≤ mo ∧ mo ≤ 1000000) = true := decide_eq_true hm
  have eE : endF B (illF is) (List.replicate B.toNat .non) = some (lastsI B is) := endF_ok ok.1 ok.2 fun e he => by
    rw [List.getD_eq_getElem?_getD, List.getElem?_replicate]
    split <;> rfl
  refine ⟨x, dx, _, _, _, _, some B, some P, some mo, illF is, rfl, hn, .int B, .int P, .int mo, hi, fun hgd l hl F H' hO hF hC => ?_, fun hno => ?_⟩
  · simp only [Option.getD_some] at hl hC
    rw [eE] at hl
    cases hl
    refine q F H' (Off.same1 hs hO hx) (fun a ha => ?_) hC
    by_cases e : a = x
    · rw [e]; exact hx
    · exact same_none hs (hF a ha e)
  · exfalso
    rcases hno with hno | hno
    · unfold chipGood inB at hno
      dsimp only at hno
      rw [e1, e2, e3] at hno
      cases hno
    · simp only [Option.getD_some] at hno
      rw [eE] at hno
      cases hno

/-! ### the law's own list of the store -/
structure MF where
  tr : Addr
  cl : Addr
  fl : Addr
  br : Addr
  la : Addr
  lg : Addr
def MF.all (M : MF) (d : Addr) : List Addr := [d, M.tr, M.cl, M.fl, M.br, M.la, M.lg]
def mineF (M : MF) (c : Cs) : List (L2.Key × V) := [(.inr "blocks", .int c.b), (.inr "pages", .int c.p), (.inr "tried", .ref M.tr), (.inr "cleared", .ref M.cl), (.inr "filled", .ref M.fl), (.inr "broken", .ref M.br), (.inr "lasts", .ref M.la), (.inr "log", .ref M.lg)]
def lastI (v : V) : Int := match v with
  | .int n => n
  | _ => -1
/-- a put that was done: the page, the mark, the number -/
def PutL (H : Hp) (vs : List V) (es : List (Int × Int × Int)) : Prop := vs.length = es.length ∧ ∀ (i : Nat) v e, vs[i]? = some v → es[i]? = some e → ∃ a, v = .ref a ∧ H a = some (.tup [.int e.1, .int e.2.1, .int e.2.2])
structure MineAt (H : Hp) (d : Addr) (M : MF) (c : Cs) (k : Bk) (es : List (Int × Int × Int)) : Prop where
  obj : H d = some (.dK (mineF M c))
  tr : H M.tr = some (.lst (c.tried.map V.int))
  cl : H M.cl = some (.lst (c.clr.map V.int))
  fl : H M.fl = some (.lst (k.fil.map V.int))
  br : H M.br = some (.lst (c.broken.map V.bl))
  la : H M.la = some (.lst ((c.lasts.map lastI).map V.int))
  lg : ∃ vs, H M.lg = some (.lst vs) ∧ PutL H vs es
  nd : (MF.all M d).Nodup
theorem PutL.mono {H H' : Hp} {vs : List V} {es : List (Int × Int × Int)} (s : TupS H H') (h : PutL H vs es) : PutL H' vs es := ⟨h.1, fun i v e h1 h2 => by
  obtain ⟨a, q, h⟩ := h.2 i v e h1 h2
  exact ⟨a, q, s _ _ h⟩⟩
theorem MineAt.mono {H H' : Hp} {d : Addr} {M : MF} {c : Cs} {k : Bk} {es : List (Int × Int × Int)} (s : Same H H') (h : MineAt H d M c k es) : MineAt H' d M c k es := by
  obtain ⟨vs, e, l⟩ := h.lg
  exact ⟨s _ _ h.obj, s _ _ h.tr, s _ _ h.cl, s _ _ h.fl, s _ _ h.br, s _ _ h.la, ⟨vs, s _ _ e, l.mono (TupS.of s)⟩, h.nd⟩
def spLGood : Sp := fun vs H Q _ => ∃ (d : Addr) (M : MF) (c : Cs) (k : Bk) (es : List (Int × Int × Int)), vs = [.ref d] ∧ MineAt H d M c k es ∧ Sizes c ∧ ∀ p H', Same H H' → H p = none → H' p = some (.lst ((goodL c).map fun n : Nat => V.int (n : Int))) → Q (.ref p) H'
theorem ok_good (T : Txt K mg) : FO P w K mg base 1 T.a__law_good T.fd__law_good ["_law_mine"] spLGood := by
  have sc := sc__law_good
  refine T.F__law_good.okX sc (fun vs H Q E h => ?_) (fun cdv A outer s H vs Q E hr h => ?_)
  · obtain ⟨_, _, _, _, _, rfl, _⟩ := h
    rfl
  · obtain ⟨d, M, c, k, es, rfl, hM, hsz, q⟩ := h
    refine ⟨_, (pss_one (ps_ret (pe_lc (own := [("_law_block", 1)]) (by rfl) sc.nd (pi_range1 (by rfl) T.b_range (pa_cons (pe_dget (hu_of hr) (pv 0) pe_str (fun _ _ => rfl)) pa_nil)) (blkOk_by (own := [("_law_block", 1)]) (N := N__law_good) (sc := defScope s__law_good) (by decide +kernel)) (fun _ _ _ _ _ => (pg_name (i := 1) sc.nd rfl (by first | exact Or.inl rfl | exact Or.inr rfl))) (fun _ _ _ _ _ => (pts_one (pt_not (K_truth (K := K) (pe_ix (K_ix (K := K)) (pe_dget (hu_of hr) (pv 0) pe_str (fun _ _ => rfl)) (pv 1) (fun _ _ => rfl)) (by intro _; rfl))))) (fun _ _ _ _ _ => (pv 1))))), ?_⟩
    have ho := hM.obj
    unfold mineF at ho
    have hbr := hM.br
    have hbb := hsz.b
    have zb := hsz.broken
    walk_at "begin"
    walk_at "go"
    refine x_lcR1K (fun i acc H' => acc = (((List.range i).filter fun n => !c.broken.getD n false).map fun n : Nat => V.int (n : Int))) (fun i acc H H' _ h => h) ⟨by omega, by omega⟩ rfl ?_ ?_
    · intro i acc H' hi hs' ha NY NN hY hN
      have ho' := hs' _ _ ho
      have hbr' := hs' _ _ hbr
      have hi2 : ((i : Nat) : Int) < c.broken.length := by omega
      dsimp only [wipe]
      walk_at "go"
      refine ⟨rfl, ?_⟩
      walk_at "go"
      rw [Int.toNat_natCast]
      have er := range_filt2 (f := fun n => !c.broken.getD n false) (s := i)
      cases hbk : c.broken.getD i false with
      | true =>
        rw [if_pos rfl]
        refine hN _ (fun _ _ h => h) ?_
        show acc = _
        rw [er, if_neg (by rw [hbk]; decide)]
        exact ha
      | false =>
        rw [if_neg (by decide)]
        walk_at "go"
        refine hY _ _ (fun _ _ h => h) ?_
        show acc ++ _ = _
        rw [er, if_pos (by rw [hbk]; rfl), ha, List.map_append]
        rfl
    · intro p acc H2 hp hs2 hn2 ha
      rw [ha] at hn2
      exact q p H2 hs2 hp hn2
theorem x_lgood {H : Hp} {Q : VK} {E : XK} {d : Addr} {M : MF} {c : Cs} {k : Bk} {es : List (Int × Int × Int)} (hM : MineAt H d M c k es) (hsz : Sizes c) (q : ∀ p H', Same H H' → H p = none → H' p = some (.lst ((goodL c).map fun n : Nat => V.int (n : Int))) → Q (.ref p) H') : spLGood [.ref d] H Q E := ⟨d, M, c, k, es, rfl, hM, hsz, q⟩
def spLPart : Sp := fun vs H Q _ => ∃ (d : Addr) (M : MF) (c : Cs) (k : Bk) (es : List (Int × Int × Int)), vs = [.ref d] ∧ MineAt H d M c k es ∧ Sizes c ∧ ((k.fil.length : Nat) : Int) = c.b ∧ ∀ H', Same H H' → Q (oV (partO c k)) H'
theorem ok_part (T : Txt K mg) : FO P w K mg base 2 T.a__law_part T.fd__law_part ["_law_mine"] spLPart := by
  have sc := sc__law_part
  refine T.F__law_part.okX sc (fun vs H Q E h => ?_) (fun cdv A outer s H vs Q E hr h => ?_)
  · obtain ⟨_, _, _, _, _, rfl, _⟩ := h
    rfl
  · obtain ⟨d, M, c, k, es, rfl, hM, hsz, zf, q⟩ := h
    refine ⟨_, (pss_cons (ps_for (passes_of rfl) rfl (pi_list (pe_callS (ok_good T) (hr.mono (by decide)) (by rfl) T.g__law_good T.k__law_good T.bd__law_good (passAt (takes_of rfl rfl rfl rfl)) (pa_cons (pv 0) pa_nil))) (pg_name (i := 1) sc.nd rfl (by first | exact Or.inl rfl | exact Or.inr rfl)) (pss_one (ps_if (pt_chain op_uLt op_uLt pe_int (pe_ix ix_seq (pe_dget (hu_of hr) (pv 0) pe_str (fun _ _ => rfl)) (pv 1) (fun _ _ => rfl)) (pe_dget (hu_of hr) (pv 0) pe_str (fun _ _ => rfl))) (pss_one (ps_ret (pv 1))) pss_nil)))
      (pss_one (ps_ret pe_non))), ?_⟩
    walk_at "begin"
    refine x_seq ?_
    walk_at "go"
    refine x_lgood hM hsz fun p H1 hs1 hp1 hn1 => ?_
    have hM1 := hM.mono hs1
    have ho := hM1.obj
    have hfl := hM1.fl
    unfold mineF at ho
    refine x_frL (SqL.of hn1) (fun i σ H' => H' = H1 ∧ (∃ v1 : Option V, σ = [some (.ref d), v1]) ∧ partO c k = ((goodL c).drop i).find? fun n => decide (0 < k.fil.getD n 0) && decide (k.fil.getD n 0 < c.p)) ⟨rfl, ⟨_, rfl⟩, rfl⟩ (fun i σ H' _ h => by rw [h.1]; exact SqL.of hn1) ?_ ?_
    · intro i x σ H' hx ⟨hH, ⟨v1, hσ⟩, hpo⟩
      subst hσ hH
      rw [List.getElem?_map] at hx
      cases he : (goodL c)[i]? with
      | none => rw [he] at hx; simp at hx
      | some n =>
        rw [he] at hx
        simp at hx
        subst hx
        obtain ⟨hil, e1⟩ := List.getElem?_eq_some_iff.mp he
        rw [List.drop_eq_getElem_cons hil, e1, List.find?_cons] at hpo
        have hn := List.mem_range.mp (List.mem_filter.mp (List.mem_of_getElem? he)).1
        have hn2 : ((n : Nat) : Int) < k.fil.length := by omega
        walk_at "go"
        rw [Int.toNat_natCast]
        refine x_iteD (fun h1 => ?_) (fun h1 => ?_)
        · rw [decide_eq_true h1, Bool.true_and] at hpo
          walk_at "go"
          refine x_iteD (fun h2 => ?_) (fun h2 => ?_)
          · rw [decide_eq_true h2] at hpo
            walk_at "go"
            have := q H' hs1
            rw [hpo] at this
            exact this
          · rw [decide_eq_false h2] at hpo
            walk_at "go"
            exact ⟨rfl, ⟨_, rfl⟩, hpo⟩
        · rw [decide_eq_false h1, Bool.false_and] at hpo
          walk_at "go"
          exact ⟨rfl, ⟨_, rfl⟩, hpo⟩
    · intro σ H' ⟨hH, ⟨v1, hσ⟩, hpo⟩
      subst hσ hH
      rw [List.length_map, List.drop_length] at hpo
      walk_at "go"
      have := q H' hs1
      rw [hpo] at this
      exact this
def spLFree (K : PySem.W.Frag) : Sp := fun vs H Q _ => ∃ (d : Addr) (M : MF) (c : Cs) (k : Bk) (es : List (Int × Int × Int)), vs = [.ref d] ∧ MineAt H d M c k es ∧ Sizes c ∧ ((k.fil.length : Nat) : Int) = c.b ∧ ∀ p H', Same H H' → H p = none → H' p = some (.lst ((sortP (freeP c k)).map fun e => V.int e.2)) → Q (.ref p) H'
theorem ok_free (T : Txt K mg) : FO P w K mg base 2 T.a__law_free T.fd__law_free ["_law_mine"] (spLFree K) := by
  have sc := sc__law_free
  refine T.F__law_free.okX sc (fun vs H Q E h => ?_) (fun cdv A outer s H vs Q E hr h => ?_)
  · obtain ⟨_, _, _, _, _, rfl, _⟩ := h
    rfl
  · obtain ⟨d, M, c, k, es, rfl, hM, hsz, zf, q⟩ := h
    refine ⟨_, (pss_cons (ps_setLc (i := 1) (own := [("_law_block", 2)]) (by rfl) sc.nd rfl rfl (sw_true rfl rfl rfl (by decide +kernel)) (pi_list (pe_callS (ok_good T) (hr.mono (by decide)) (by rfl) T.g__law_good T.k__law_good T.bd__law_good (passAt (takes_of rfl rfl rfl rfl)) (pa_cons (pv 0) pa_nil))) (blkOk_by (own := [("_law_block", 2)]) (N := N__law_free) (sc := defScope s__law_free) (by decide +kernel)) (fun _ _ _ _ _ => (pg_name (i := 2) sc.nd rfl (by first | exact Or.inl rfl | exact Or.inr rfl))) (fun _ _ _ _ _ => (pts_one (pt_cmpR (K_eq (K := K) hr.units) (pe_ix (K_ix (K := K)) (pe_dget (hu_of hr) (pv 0) pe_str (fun _ _ => rfl)) (pv 2) (fun _ _ => rfl)) pe_int (nomark _)))) (fun _ _ _ _ _ => (pe_tup (pa_cons (pe_ix (K_ix (K := K)) (pe_dget (hu_of hr) (pv 0) pe_str (fun _ _ => rfl)) (pv 2) (fun _ _ => rfl)) (pa_cons (pv 2) pa_nil)))))
      (pss_one (ps_ret (pe_lc (own := [("_law_times", 3), ("_law_block", 2)]) (by rfl) sc.nd (pi_list (pe_callB (cr_usorted) (by rfl) T.b_sorted bt_sorted (pa_cons (pv 1) pa_nil))) (blkOk_by (own := [("_law_times", 3), ("_law_block", 2)]) (N := N__law_free) (sc := defScope s__law_free) (by decide +kernel)) (fun _ _ _ _ _ => (K_gtup (K := K) (n := 2) (by rfl) (pgs_cons (pg_name (i := 3) sc.nd rfl (by first | exact Or.inl rfl | exact Or.inr rfl)) (pgs_cons (pg_name (i := 2) sc.nd rfl (by first | exact Or.inl rfl | exact Or.inr rfl)) pgs_nil)))) (fun _ _ _ _ _ => pts_nil) (fun _ _ _ _ _ => (pv 2)))))), ?_⟩
    walk_at "begin"
    walk_at "go"
    refine x_lgood hM hsz fun p H1 hs1 hp1 hn1 => ?_
    have hM1 := hM.mono hs1
    have ho := hM1.obj
    have hfl := hM1.fl
    have hcl := hM1.cl
    have zc := hsz.clr
    unfold mineF at ho
    walk_at "go"
    have gl : (goodL c).length ≤ c.b.toNat := by
      unfold goodL
      have := List.length_filter_le (fun n => !c.broken.getD n false) (List.range c.b.toNat)
      rw [List.length_range] at this
      exact this
    have hbb := hsz.b
    refine x_lcLK (SqL.of hn1) (fun i acc H' => PairL H' acc (freeQ c k ((goodL c).take i))) (fun i acc H H' s h => h.mono s) (Nat.lt_of_le_of_lt (show _ ≤ 1000 by rw [List.length_map]; omega) (by decide)) PairL.nil ?_ ?_
    · intro i x acc H' hx hs' ha NY NN hY hN
      rw [List.getElem?_map] at hx
      cases he : (goodL c)[i]? with
      | none => rw [he] at hx; simp at hx
      | some n =>
        rw [he] at hx
        simp at hx
        subst hx
        have ho' := hs' _ _ ho
        have hfl' := hs' _ _ hfl
        have hcl' := hs' _ _ hcl
        have hn := List.mem_range.mp (List.mem_filter.mp (List.mem_of_getElem? he)).1
        have hn2 : ((n : Nat) : Int) < k.fil.length := by omega
        have hn3 : ((n : Nat) : Int) < c.clr.length := by omega
        have ek : freeQ c k ((goodL c).take (i + 1)) = if k.fil.getD n 0 = 0 then freeQ c k ((goodL c).take i) ++ [(c.clr.getD n 0, (n : Int))] else freeQ c k ((goodL c).take i) := by
          rw [List.take_add_one, he]
          exact freeQ_snoc
        dsimp only [wipe]
        walk_at "go"
        refine ⟨rfl, ?_⟩
        walk_at "go"
        rw [Int.toNat_natCast]
        refine x_iteD (fun h1 => ?_) (fun h1 => ?_)
        · walk_at "go"
          rename_i t1 H4 ht1 hs4 hn4
          rw [Int.toNat_natCast] at hn4
          refine hY _ _ hs4 ?_
          show PairL H4 _ (freeQ c k ((goodL c).take (i + 1)))
          rw [ek, if_pos h1]
          exact (ha.mono (TupS.of hs4)).snoc ⟨t1, rfl, hn4⟩
        · walk_at "go"
          refine hN _ (fun _ _ h => h) ?_
          show PairL H' _ (freeQ c k ((goodL c).take (i + 1)))
          rw [ek, if_neg h1]
          exact ha
    intro p1 xs H2 hp2 hs2 hn2 hpl
    rw [List.length_map, List.take_length] at hpl
    walk_at "go"
    refine x_sortP (SqL.of hn2) hpl fun q1 ys H3 hq1 hs3 hn3 hpl3 => ?_
    walk_at "go"
    have hyl : ys.length < sizeLine := Nat.lt_of_le_of_lt (show ys.length ≤ 1000 by
      rw [hpl3.1, (sortP_perm _).length_eq]
      unfold freeQ
      rw [List.length_map]
      have l1 := List.length_filter_le (fun n => decide (k.fil.getD n 0 = 0)) (goodL c)
      omega) (by decide)
    refine x_lcLK (SqL.of hn3) (fun i acc H' => acc = ((sortP (freeQ c k (goodL c))).take i).map fun e => V.int e.2) (fun i acc H H' _ h => h) hyl rfl ?_ ?_
    · intro i x acc H4 hx hs4 ha NY NN hY hN
      have hil := (List.getElem?_eq_some_iff.mp hx).1
      obtain ⟨e, he⟩ : ∃ e, (sortP (freeQ c k (goodL c)))[i]? = some e := ⟨_, List.getElem?_eq_getElem (by have := hpl3.1; omega)⟩
      obtain ⟨t1, rfl, ht1⟩ := hpl3.2 i x e hx he
      have ht4 := hs4 _ _ ht1
      refine x_gtup2 (SqT.of ht4) ?_
      dsimp only [wipe, List.set]
      refine ⟨rfl, ?_⟩
      walk_at "go"
      refine hY _ _ (fun _ _ h => h) ?_
      show acc ++ _ = ((sortP (freeQ c k (goodL c))).take (i + 1)).map fun e => V.int e.2
      rw [List.take_add_one, he, ha, List.map_append]
      rfl
    · intro p2 acc H4 hp2' hs4 hn4 ha
      rw [ha, hpl3.1, List.take_length] at hn4
      have s34 : Same H H3 := (hs1.trans hs2).trans hs3
      exact q p2 H4 (s34.trans hs4) (same_none s34 hp2') hn4
theorem x_lfree {H : Hp} {Q : VK} {E : XK} {d : Addr} {M : MF} {c : Cs} {k : Bk} {es : List (Int × Int × Int)} (hM : MineAt H d M c k es) (hsz : Sizes c) (zf : ((k.fil.length : Nat) : Int) = c.b) (q : ∀ p H', Same H H' → H p = none → H' p = some (.lst ((sortP (freeP c k)).map fun e => V.int e.2)) → Q (.ref p) H') : spLFree K [.ref d] H Q E := ⟨d, M, c, k, es, rfl, hM, hsz, zf, q⟩
theorem x_lpart {H : Hp} {Q : VK} {E : XK} {d : Addr} {M : MF} {c : Cs} {k : Bk} {es : List (Int × Int × Int)} (hM : MineAt H d M c k es) (hsz : Sizes c) (zf : ((k.fil.length : Nat) : Int) = c.b) (q : ∀ H', Same H H' → Q (oV (partO c k)) H') : spLPart [.ref d] H Q E := ⟨d, M, c, k, es, rfl, hM, hsz, zf, q⟩
def spLSpot (K : PySem.W.Frag) : Sp := fun vs H Q _ => ∃ (d : Addr) (M : MF) (c : Cs) (k : Bk) (es : List (Int × Int × Int)), vs = [.ref d] ∧ MineAt H d M c k es ∧ Sizes c ∧ ((k.fil.length : Nat) : Int) = c.b ∧ ∀ H', Same H H' → Q (iV (spotO c k)) H'
theorem ok_spot (T : Txt K mg) : FO P w K mg base 3 T.a__law_spot T.fd__law_spot ["_law_mine"] (spLSpot K) := by
  have sc := sc__law_spot
  refine T.F__law_spot.okX sc (fun vs H Q E h => ?_) (fun cdv A outer s H vs Q E hr h => ?_)
  · obtain ⟨_, _, _, _, _, rfl, _⟩ := h
    rfl
  · obtain ⟨d, M, c, k, es, rfl, hM, hsz, zf, q⟩ := h
    refine ⟨_, (pss_cons (ps_set (i := 1) sc.nd rfl (by first | exact Or.inl rfl | exact Or.inr rfl) (pe_callS (ok_part T) (hr.mono (by decide)) (by rfl) T.g__law_part T.k__law_part T.bd__law_part (passAt (takes_of rfl rfl rfl rfl)) (pa_cons (pv 0) pa_nil)))
      (pss_cons (ps_if (pt_cmpR op_uIs (pv 1) pe_non (nomark _)) (pss_cons (ps_if (pt_cmpR (op_uEq hr.units) (pe_callS (ok_free T) (hr.mono (by decide)) (by rfl) T.g__law_free T.k__law_free T.bd__law_free (passAt (takes_of rfl rfl rfl rfl)) (pa_cons (pv 0) pa_nil)) (pe_lst pa_nil) (nomark _)) (pss_one (ps_ret pe_non)) pss_nil)
      (pss_one (ps_set (i := 1) sc.nd rfl (by first | exact Or.inl rfl | exact Or.inr rfl) (pe_ix ix_seq (pe_callS (ok_free T) (hr.mono (by decide)) (by rfl) T.g__law_free T.k__law_free T.bd__law_free (passAt (takes_of rfl rfl rfl rfl)) (pa_cons (pv 0) pa_nil)) pe_int (fun _ _ => rfl))))) pss_nil)
      (pss_one (ps_ret (pe_op op_uAdd (pe_op op_uMul (pv 1) (pe_dget (hu_of hr) (pv 0) pe_str (fun _ _ => rfl))) (pe_ix ix_seq (pe_dget (hu_of hr) (pv 0) pe_str (fun _ _ => rfl)) (pv 1) (fun _ _ => rfl))))))), ?_⟩
    unfold spotO nextO at q
    walk_at "begin"
    walk_at "go"
    refine x_lpart hM hsz zf fun H1 hs1 => ?_
    have hM1 := hM.mono hs1
    walk_at "go"
    refine x_join (fun σ' H2 => Same H H2 ∧ ∃ (n : Nat), n < c.b.toNat ∧ σ' = [some (.ref d), some (.int (n : Int))] ∧ ∀ H', Same H H' → Q (.int ((n : Int) * c.p + k.fil.getD n 0)) H') (fun R hR => ?_) ?_
    · walk_at "go"
      cases hpo : partO c k with
      | some n =>
        rw [hpo] at q
        refine iteF ?_
        walk_at "go"
        exact hR _ _ ⟨hs1, n, (partO_mem hpo).1, rfl, q⟩
      | none =>
        rw [hpo] at q
        refine iteT ?_
        walk_at "go"
        walk_at "if"
        refine x_lfree hM1 hsz zf fun p H2 hs2 hp2 hn2 => ?_
        have hn22 : H2 p = some (.lst (((sortP (freeP c k)).map (·.2)).map V.int)) := by rw [List.map_map]; exact hn2
        walk_at "go"
        rename_i p3 H3 hp3 hs3 hn3
        refine x_eqNilI (hs3 _ _ hn22) hn3 ?_
        have s13 : Same H H3 := (hs1.trans hs2).trans hs3
        have hM3 := hM.mono s13
        cases hl : sortP (freeP c k) with
        | nil =>
          rw [hl] at q
          walk_at "go"
          refine iteT ?_
          walk_at "go"
          exact q H3 s13
        | cons e l =>
          obtain ⟨n, he, hn, _⟩ := freeP_mem (show e ∈ sortP (freeP c k) by rw [hl]; exact List.mem_cons_self)
          rw [hl, he] at q
          walk_at "go"
          refine iteF ?_
          walk_at "go"
          refine x_lfree hM3 hsz zf fun p4 H4 hs4 hp4 hn4 => ?_
          rw [hl, he] at hn4
          walk_at "go"
          refine hR _ _ ⟨s13.trans hs4, n, hn, rfl, fun H' h => ?_⟩
          have := q H' h
          simp only [List.head?_cons, Option.map_some, Int.toNat_natCast] at this
          exact this
    intro σ' H2 ⟨hs2, n, hn, hσ, q2⟩
    subst hσ
    have hM2 := hM.mono hs2
    have ho := hM2.obj
    have hfl := hM2.fl
    unfold mineF at ho
    have hbb := hsz.b
    have hpp := hsz.p
    have hn2 : ((n : Nat) : Int) < k.fil.length := by omega
    have hs0 : ((n : Nat) : Int).natAbs < 2 ^ 250 ∧ c.p.natAbs < 2 ^ 250 := ⟨by omega, by omega⟩
    walk_at "go"
    rw [Int.toNat_natCast]
    exact q2 _ hs2
theorem x_lspot {H : Hp} {Q : VK} {E : XK} {d : Addr} {M : MF} {c : Cs} {k : Bk} {es : List (Int × Int × Int)} (hM : MineAt H d M c k es) (hsz : Sizes c) (zf : ((k.fil.length : Nat) : Int) = c.b) (q : ∀ H', Same H H' → Q (iV (spotO c k)) H') : spLSpot K [.ref d] H Q E := ⟨d, M, c, k, es, rfl, hM, hsz, zf, q⟩
def spSame : Sp := fun vs H Q _ => ∃ o : Option Int, vs = [iV o, iV o] ∧ Q (.bl true) H
theorem ok_same (T : Txt K mg) : FO P w K mg base 2 T.a__law_same T.fd__law_same ["_law_found", "_law_due"] spSame := by
  have sc := sc__law_same
  refine T.F__law_same.okX sc (fun vs H Q E h => ?_) (fun cdv A outer s H vs Q E hr h => ?_)
  · obtain ⟨_, rfl, _⟩ := h
    rfl
  · obtain ⟨o, rfl, q⟩ := h
    refine ⟨_, (pss_cons (ps_if (pt_cmpR op_uIs (pv 1) pe_non (nomark _)) (pss_one (ps_ret (pe_cmpR op_uIs (pv 0) pe_non (nomark _)))) pss_nil)
      (pss_one (ps_ret (pe_andT (pe_callS (ok_whole T) (hr.mono (by decide)) (by rfl) T.g__law_whole T.k__law_whole T.bd__law_whole (passAt (takes_of rfl rfl rfl rfl)) (pa_cons (pv 0) pa_nil)) (pe_one (pe_cmpR (op_uEq hr.units) (pv 0) (pv 1) (nomark _))))))), ?_⟩
    walk_at "begin"
    cases o with
    | none =>
      unfold iV
      walk_at "if"
      refine iteT ?_
      walk_at "go"
      exact q
    | some n =>
      unfold iV
      walk_at "if"
      refine iteF ?_
      walk_at "go"
      rw [decide_eq_true rfl]
      exact q
def spNumbers (K : PySem.W.Frag) : Sp := fun vs H Q _ => ∃ (p q : Addr) (ns : List Int), vs = [.ref p, .ref q] ∧ H p = some (.lst (ns.map V.int)) ∧ H q = some (.lst (ns.map V.int)) ∧ ns.length ≤ 1000 ∧ ∀ H', Same H H' → Q (.bl true) H'
theorem ok_numbers (T : Txt K mg) : FO P w K mg base 2 T.a__law_numbers T.fd__law_numbers ["_law_found", "_law_due"] (spNumbers K) := by
  have sc := sc__law_numbers
  refine T.F__law_numbers.okX sc (fun vs H Q E h => ?_) (fun cdv A outer s H vs Q E hr h => ?_)
  · obtain ⟨_, _, _, rfl, _⟩ := h
    rfl
  · obtain ⟨p, q0, ns, rfl, hp, hq, hl, q⟩ := h
    refine ⟨_, (pss_cons (ps_if (PW.pt (pw_or (pt_not (pt_truth (pe_callB (cr_uisinstance) (by rfl) T.b_isinstance bt_isinstance (pa_cons (pv 0) (pa_cons (pe_bltn (v := .ty "list") (by rfl) T.b_list bt_list rfl) pa_nil))) (by intro _; rfl))) (pw_or1 (pt_cmpR (op_uNe hr.units) (pv 0) (pv 1) (nomark _))))) (pss_one (ps_ret pe_bl)) pss_nil)
      (pss_one (ps_ret (pe_cmpR (op_uEq hr.units) (pe_callB (cr_ulen) (by rfl) T.b_len bt_len (pa_cons (pe_lc (own := [("_law_number", 2)]) (by rfl) sc.nd (pi_list (pv 0)) (blkOk_by (own := [("_law_number", 2)]) (N := N__law_numbers) (sc := defScope s__law_numbers) (by decide +kernel)) (fun _ _ _ _ _ => (pg_name (i := 2) sc.nd rfl (by first | exact Or.inl rfl | exact Or.inr rfl))) (fun _ _ _ _ _ => (pts_one (K_truth (K := K) (pe_callS (ok_whole T) (hr.mono (by decide)) (by rfl) T.g__law_whole T.k__law_whole T.bd__law_whole passL2 (pa_cons (pv 2) pa_nil)) (by intro _; rfl)))) (fun _ _ _ _ _ => (pv 2))) pa_nil)) (pe_callB (cr_ulen) (by rfl) T.b_len bt_len (pa_cons (pv 0) pa_nil)) (nomark _))))), ?_⟩
    walk_at "begin"
    walk_at "if"
    refine x_neS2 (d := .list (ns.map PyData.int)) (.lst (SqL.of hp) dpInts) (.lst (SqL.of hq) dpInts) (Sh.list (k := 8) fun d h => by
      obtain ⟨n, _, rfl⟩ := List.mem_map.mp h
      exact Sh.int) ?_
    walk_at "go"
    refine x_lcLK (SqL.of hp) (fun i acc H' => acc = (ns.take i).map V.int) (fun i acc H H' _ h => h) (Nat.lt_of_le_of_lt (show _ ≤ 1000 by rw [List.length_map]; exact hl) (by decide)) rfl ?_ ?_
    · intro i x acc H' hx hs' ha NY NN hY hN
      rw [List.getElem?_map] at hx
      cases he : ns[i]? with
      | none => rw [he] at hx; simp at hx
      | some n =>
        rw [he] at hx
        simp at hx
        subst hx
        dsimp only [wipe]
        walk_at "go"
        refine ⟨rfl, ?_⟩
        walk_at "go"
        refine hY _ _ (fun _ _ h => h) ?_
        show acc ++ _ = (ns.take (i + 1)).map V.int
        rw [List.take_add_one, he, ha, List.map_append]
        rfl
    intro p1 acc H1 hp1 hs1 hn1 ha
    rw [ha, List.length_map, List.take_length] at hn1
    have hp' := hs1 _ _ hp
    walk_at "go"
    rw [decide_eq_true rfl]
    exact q H1 hs1
theorem MineAt.ne {H : Hp} {d : Addr} {M : MF} {c : Cs} {k : Bk} {es : List (Int × Int × Int)} (h : MineAt H d M c k es) : (d ≠ M.tr ∧ d ≠ M.cl ∧ d ≠ M.fl ∧ d ≠ M.br ∧ d ≠ M.la ∧ d ≠ M.lg) ∧ (M.tr ≠ M.cl ∧ M.tr ≠ M.fl ∧ M.tr ≠ M.br ∧ M.tr ≠ M.la ∧ M.tr ≠ M.lg) ∧ (M.cl ≠ M.fl ∧ M.cl ≠ M.br ∧ M.cl ≠ M.la ∧ M.cl ≠ M.lg) ∧ (M.fl ≠ M.br ∧ M.fl ≠ M.la ∧ M.fl ≠ M.lg) ∧ (M.br ≠ M.la ∧ M.br ≠ M.lg) ∧ M.la ≠ M.lg := by
  have d := h.nd
  unfold MF.all at d
  simp only [List.nodup_cons, List.mem_cons, List.not_mem_nil, or_false, not_or, not_false_eq_true, List.nodup_nil, and_true] at d
  exact ⟨d.1, d.2.1, d.2.2.1, d.2.2.2.1, d.2.2.2.2.1, d.2.2.2.2.2⟩
theorem MineAt.off {H H' : Hp} {d : Addr} {M : MF} {c : Cs} {k : Bk} {es : List (Int × Int × Int)} {S : List Addr} (h : MineAt H d M c k es) (s : Off S H H') (n : ∀ a, a ∈ M.all d → a ∉ S) (ht : TupS H H') : MineAt H' d M c k es := by
  obtain ⟨vs, e, l⟩ := h.lg
  unfold MF.all at n
  exact ⟨s.at h.obj (n _ (by simp)), s.at h.tr (n _ (by simp)), s.at h.cl (n _ (by simp)), s.at h.fl (n _ (by simp)), s.at h.br (n _ (by simp)), s.at h.la (n _ (by simp)), ⟨vs, s.at e (n _ (by simp)), l.mono ht⟩, h.nd⟩
theorem MineAt.there {H : Hp} {d : Addr} {M : MF} {c : Cs} {k : Bk} {es : List (Int × Int × Int)} (h : MineAt H d M c k es) : ∀ a ∈ M.all d, ∃ o, H a = some o ∧ ∀ xs, o ≠ .tup xs := fun a ha => by
  obtain ⟨vs, e7, _⟩ := h.lg
  unfold MF.all at ha
  simp only [List.mem_cons, List.not_mem_nil, or_false] at ha
  rcases ha with rfl | rfl | rfl | rfl | rfl | rfl | rfl
  · exact ⟨_, h.obj, fun _ z => by cases z⟩
  · exact ⟨_, h.tr, fun _ z => by cases z⟩
  · exact ⟨_, h.cl, fun _ z => by cases z⟩
  · exact ⟨_, h.fl, fun _ z => by cases z⟩
  · exact ⟨_, h.br, fun _ z => by cases z⟩
  · exact ⟨_, h.la, fun _ z => by cases z⟩
  · exact ⟨_, e7, fun _ z => by cases z⟩
/-- what of the chip the law's list bears -/
def MSame (c c' : Cs) : Prop := c'.b = c.b ∧ c'.p = c.p ∧ c'.tried = c.tried ∧ c'.clr = c.clr ∧ c'.broken = c.broken ∧ c'.lasts = c.lasts
theorem MineAt.congr {H : Hp} {d : Addr} {M : MF} {c c' : Cs} {k k' : Bk} {es : List (Int × Int × Int)} (h : MineAt H d M c k es) (e : MSame c c') (e2 : k'.fil = k.fil) : MineAt H d M c' k' es := by
  obtain ⟨e1, e3, e4, e5, e6, e7⟩ := e
  have ho := h.obj
  unfold mineF at ho
  refine ⟨?_, ?_, ?_, ?_, ?_, ?_, h.lg, h.nd⟩
  · unfold mineF
    rw [e1, e3]
    exact ho
  · rw [e4]; exact h.tr
  · rw [e5]; exact h.cl
  · rw [e2]; exact h.fl
  · rw [e6]; exact h.br
  · rw [e7]; exact h.la
def spLDone (K : PySem.W.Frag) : Sp := fun vs H Q _ => ∃ (d : Addr) (M : MF) (c : Cs) (k : Bk) (es : List (Int × Int × Int)) (n : Int), vs = [.ref d, .int n] ∧ MineAt H d M c k es ∧ Sizes c ∧ 0 ≤ n ∧ n < c.b ∧ c.broken.getD n.toNat false = false ∧ (∀ x ∈ c.tried, 0 ≤ x) ∧
  ∀ H', Off (M.all d) H H' → MineAt H' d M (c.tick n.toNat (c.well n.toNat false)) k es → Q (.bl (c.well n.toNat false)) H'
theorem ok_done (T : Txt K mg) : FO P w K mg base 1 T.a__law_done T.fd__law_done ["_law_mine", "_law_block"] (spLDone K) := by
  have sc := sc__law_done
  refine T.F__law_done.okX sc (fun vs H Q E h => ?_) (fun cdv A outer s H vs Q E hr h => ?_)
  · obtain ⟨_, _, _, _, _, _, rfl, _⟩ := h
    rfl
  · obtain ⟨d, M, c, k, es, n, rfl, hM, hsz, h0, h1, hbr, htr, q⟩ := h
    refine ⟨_, (pss_cons (ps_set (i := 2) sc.nd rfl (by first | exact Or.inl rfl | exact Or.inr rfl) (pe_andT (pe_notT (pe_ix ix_seq (pe_dget (hu_of hr) (pv 0) pe_str (fun _ _ => rfl)) (pv 1) (fun _ _ => rfl))) (pe_one (pe_cmpR (op_uNe hr.units) (pe_ix ix_seq (pe_dget (hu_of hr) (pv 0) pe_str (fun _ _ => rfl)) (pv 1) (fun _ _ => rfl)) (pe_ix ix_seq (pe_dget (hu_of hr) (pv 0) pe_str (fun _ _ => rfl)) (pv 1) (fun _ _ => rfl)) (nomark _)))))
      (pss_cons (ps_asg (pe_op op_uAdd (pe_ix ix_seq (pe_dget (hu_of hr) (pv 0) pe_str (fun _ _ => rfl)) (pv 1) (fun _ _ => rfl)) pe_int) (pg_sub (pe_dget (hu_of hr) (pv 0) pe_str (fun _ _ => rfl)) (pv 1) set_list))
      (pss_cons (ps_asg (pe_notT (pv 2)) (pg_sub (pe_dget (hu_of hr) (pv 0) pe_str (fun _ _ => rfl)) (pv 1) set_list))
      (pss_one (ps_ret (pv 2)))))), ?_⟩
    obtain ⟨⟨n1, n2, n3, n4, n5, n6⟩, ⟨n7, n8, n9, n10, n11⟩, ⟨n12, n13, n14, n15⟩, ⟨n16, n17, n18⟩, ⟨n19, n20⟩, n21⟩ := hM.ne
    have ho := hM.obj
    unfold mineF at ho
    have a1 := hM.tr
    have a2 := hM.la
    have a3 := hM.cl
    have a4 := hM.br
    have a5 := hM.fl
    have z1 := hsz.tried
    have z2 := hsz.lasts
    have z3 := hsz.broken
    have z4 : ((c.lasts.map lastI).length : Int) = c.b := by rw [List.length_map]; exact z2
    have hlt : n.toNat < c.lasts.length := by omega
    have htl : n.toNat < c.tried.length := by omega
    have ht0 : 0 ≤ c.tried.getD n.toNat 0 := by
      rw [List.getD_eq_getElem?_getD, List.getElem?_eq_getElem htl]
      exact htr _ (List.getElem_mem htl)
    have el : (List.map lastI c.lasts).getD n.toNat 0 = lastI (c.lasts.getD n.toNat .non) := by simp [hlt]
    have hls : c.lasts.getD n.toNat .non = .non ∨ ∃ k : Int, c.lasts.getD n.toNat .non = .int k := by
      rw [List.getD_eq_getElem?_getD, List.getElem?_eq_getElem hlt]
      exact hsz.lsc _ (List.getElem_mem hlt)
    have ee : decide (c.tried.getD n.toNat 0 = lastI (c.lasts.getD n.toNat .non)) = decide (V.int (c.tried.getD n.toNat 0) = c.lasts.getD n.toNat .non) := by
      rw [decide_eq_decide]
      rcases hls with e | ⟨k, e⟩
      · rw [e]
        exact ⟨fun z => by simp only [lastI] at z; omega, fun z => by cases z⟩
      · rw [e]
        exact ⟨fun z => by rw [z]; rfl, fun z => by cases z; rfl⟩
    walk_at "begin"
    refine x_join (fun σ' H' => σ' = [some (.ref d), some (.int n), some (.bl (c.well n.toNat false))] ∧ H' = H) (fun R hR => ?_) ?_
    · walk_at "go"
      rw [hbr]
      walk_at "go"
      rw [el, ee]
      refine hR _ _ ⟨?_, rfl⟩
      unfold Cs.well
      rfl
    intro σ' H' ⟨hσ, hH⟩
    subst hσ hH
    walk_at "go"
    rename_i H2 hO2 hI2 H3 hO3 hI3
    have lg := hM.lg
    obtain ⟨lvs, hlg, hpl⟩ := lg
    have f1 : H3 d = some (.dK (mineF M (c.tick n.toNat (c.well n.toNat false)))) := by unfold mineF; walk_at "hp"
    have f2 : H3 M.la = some (.lst ((c.lasts.map lastI).map V.int)) := by walk_at "hp"
    have f3 : H3 M.fl = some (.lst (k.fil.map V.int)) := by walk_at "hp"
    have f4 : H3 M.cl = some (.lst (c.clr.map V.int)) := by walk_at "hp"
    have f5 : H3 M.lg = some (.lst lvs) := by walk_at "hp"
    have f6 : H3 M.tr = some (.lst ((c.tried.set n.toNat (c.tried.getD n.toNat 0 + 1)).map V.int)) := by
      rw [List.map_set]
      walk_at "hp"
    have f7 : H3 M.br = some (.lst ((c.broken.set n.toNat (!c.well n.toNat false)).map V.bl)) := by
      rw [List.map_set]
      exact hI3
    have hoff : Off (M.all d) H' H3 := by unfold MF.all; walk_at "off"
    exact q H3 hoff ⟨f1, f6, f4, f3, f7, f2, ⟨lvs, f5, hpl.mono (tups_of hM.there hoff)⟩, hM.nd⟩
theorem x_ldone {H : Hp} {Q : VK} {E : XK} {d : Addr} {M : MF} {c : Cs} {k : Bk} {es : List (Int × Int × Int)} {n : Int} (hM : MineAt H d M c k es) (hsz : Sizes c) (h : 0 ≤ n ∧ n < c.b) (hb : c.broken.getD n.toNat false = false) (htr : ∀ x ∈ c.tried, 0 ≤ x) (q : ∀ H', Off (M.all d) H H' → MineAt H' d M (c.tick n.toNat (c.well n.toNat false)) k es → Q (.bl (c.well n.toNat false)) H') : spLDone K [.ref d, .int n] H Q E := ⟨d, M, c, k, es, n, rfl, hM, hsz, h.1, h.2, hb, htr, q⟩
theorem wipe_place {c : Cs} {n : Int} (h : 0 ≤ n ∧ n < c.b) (hd : c.dark = false) : c.wipeR (some n) = if c.broken.getD n.toNat false = true then (.failed n, c)
  else if c.well n.toNat (decide (c.clr.getD n.toNat 0 = c.m)) = true then (.ok, { c.said n.toNat true ("wipe", n) with clr := c.clr.set n.toNat (c.clr.getD n.toNat 0 + 1), stuff := blankN c.stuff (n.toNat * c.p.toNat) c.p.toNat })
  else (.failed n, c.said n.toNat false ("wipe", n)) := by
  have hin : inB (some n) 0 (c.b - 1) = true := decide_eq_true ⟨h.1, by omega⟩
  unfold Cs.wipeR
  rw [if_neg (by rw [hin]; decide), if_neg (by rw [hd]; decide)]
  rfl
theorem said_tick {c : Cs} {n : Nat} {w : Bool} {e : Str × Int} : MSame (c.tick n w) (c.said n w e) := ⟨rfl, rfl, rfl, rfl, rfl, rfl⟩
def spWiped (T : Txt K mg) : Sp := fun vs H Q _ => ∃ (r d : Addr) (F : CF) (M : MF) (c : Cs) (k : Bk) (es : List (Int × Int × Int)) (n : Int), vs = [.ref r, .ref d, .int n] ∧ MineAt H d M c k es ∧ ChipAt T.C_Chip H r F c ∧ (∀ a ∈ M.all d, a ∉ F.all r) ∧ c.dark = false ∧ c.clr.getD n.toNat 0 ≠ c.m ∧ 0 ≤ n ∧ n < c.b ∧ c.log.length < 900000 ∧ (∀ x ∈ c.tried, 0 ≤ x) ∧
  ∀ H', Off (M.all d ++ F.all r) H H' → ChipAt T.C_Chip H' r F (c.wipeR (some n)).2 → MineAt H' d M (c.wipeR (some n)).2 k es → Q (.bl true) H'
theorem ok_wiped (T : Txt K mg) : FO P w K mg base 5 T.a__law_wiped T.fd__law_wiped ["_law_chip", "_law_mine", "_law_block"] (spWiped T) := by
  have sc := sc__law_wiped
  refine T.F__law_wiped.okX sc (fun vs H Q E h => ?_) (fun cdv A outer s H vs Q E hr h => ?_)
  · obtain ⟨_, _, _, _, _, _, _, _, rfl, _⟩ := h
    rfl
  · obtain ⟨r, d, F, M, c, k, es, n, rfl, hM, hC, hdis, hdk, hcm, h0, h1, hll, htr, q⟩ := h
    refine ⟨_, (pss_cons (ps_set (i := 3) sc.nd rfl (by first | exact Or.inl rfl | exact Or.inr rfl) pe_bl)
      (pss_cons (ps_try1 rfl rfl ⟨rfl, rfl, Or.inl T.g_BlockFailed⟩ (takes_of rfl rfl rfl rfl) (fun W1 pn1 xe1 hW1 hP1 => (pss_one (ps_expr (K_methD (P := P) (w := w) (K := K) (mg := mg) (base := base) (k := 4) (pv 0) (hr.mono (by decide)) (passAt hW1) (pa_cons (pv 2) pa_nil))))) (fun a1 oe1 cls1 d1 pn1 hz1 hv1 => (pss_one (ps_set (i := 3) sc.nd rfl (by first | exact Or.inl rfl | exact Or.inr rfl) pe_bl))))
      (pss_cons (ps_if (PW.pt (pw_and (pt_not (pt_truth (pe_ix ix_seq (pe_dget (hu_of hr) (pv 1) pe_str (fun _ _ => rfl)) (pv 2) (fun _ _ => rfl)) (by intro _; rfl))) (pw_and1 (pt_truth (pe_callS (ok_done T) (hr.mono (by decide)) (by rfl) T.g__law_done T.k__law_done T.bd__law_done (passAt (takes_of rfl rfl rfl rfl)) (pa_cons (pv 1) (pa_cons (pv 2) pa_nil))) (by intro _; rfl))))) (pss_one (ps_asg (pe_op op_uAdd (pe_ix ix_seq (pe_dget (hu_of hr) (pv 1) pe_str (fun _ _ => rfl)) (pv 2) (fun _ _ => rfl)) pe_int) (pg_sub (pe_dget (hu_of hr) (pv 1) pe_str (fun _ _ => rfl)) (pv 2) set_list))) pss_nil)
      (pss_one (ps_ret (pe_cmpR (op_uNe hr.units) (pv 3) (pe_ix ix_seq (pe_dget (hu_of hr) (pv 1) pe_str (fun _ _ => rfl)) (pv 2) (fun _ _ => rfl)) (nomark _))))))), ?_⟩
    have hsz := hC.sz
    obtain ⟨⟨n1, n2, n3, n4, n5, n6⟩, ⟨n7, n8, n9, n10, n11⟩, ⟨n12, n13, n14, n15⟩, ⟨n16, n17, n18⟩, ⟨n19, n20⟩, n21⟩ := hM.ne
    have ew := wipe_place (c := c) ⟨h0, h1⟩ hdk
    rw [decide_eq_false hcm] at ew
    have z1 := hsz.broken
    have z2 := hsz.clr
    have hbt : n.toNat < c.broken.length := by omega
    have hR : ∃ b : Bool, ((c.wipeR (some n)).1 = if b = true then .ok else .failed n) ∧ (c.wipeR (some n)).2.broken.getD n.toNat false = !b := by
      cases hbr : c.broken.getD n.toNat false with
      | true =>
        rw [hbr, if_pos rfl] at ew
        exact ⟨false, by rw [ew]; rfl, by rw [ew]; exact hbr⟩
      | false =>
        rw [hbr, if_neg (by decide)] at ew
        cases hw : c.well n.toNat false with
        | true =>
          rw [hw, if_pos rfl] at ew
          refine ⟨true, by rw [ew]; rfl, ?_⟩
          rw [ew]
          show (c.broken.set n.toNat (!true)).getD n.toNat false = _
          rw [List.getD_eq_getElem?_getD, List.getElem?_set_self hbt]
          rfl
        | false =>
          rw [hw, if_neg (by decide)] at ew
          refine ⟨false, by rw [ew]; rfl, ?_⟩
          rw [ew]
          show (c.broken.set n.toNat (!false)).getD n.toNat false = _
          rw [List.getD_eq_getElem?_getD, List.getElem?_set_self hbt]
          rfl
    obtain ⟨b, hR1, hR2⟩ := hR
    walk_at "begin"
    refine x_join (fun σ' H' => σ' = [some (.ref r), some (.ref d), some (.int n), some (.bl true)] ∧ H' = H) (fun R hR => ?_) ?_
    · walk_at "go"
      exact hR _ _ ⟨rfl, rfl⟩
    intro σ' H' ⟨hσ, hH⟩
    subst hσ hH
    refine x_join (fun σ' H2 => σ' = [some (.ref r), some (.ref d), some (.int n), some (.bl b)] ∧ Off (F.all r) H' H2 ∧ ChipAt T.C_Chip H2 r F (c.wipeR (some n)).2) (fun R hR => ?_) ?_
    · walk_at "go"
      refine x_mWipe hC ?_
      walk_at "go"
      refine ⟨r, F, c, _, some n, rfl, hC, .int n, hll, fun H1 hO1 hC1 => ?_⟩
      rw [hR1]
      cases b with
      | true =>
        refine x_finOk ?_
        dsimp only
        walk_at "go"
        exact hR _ _ ⟨rfl, hO1, hC1⟩
      | false =>
        intro d0 hd0
        refine x_onlyT T.em_BlockFailed_BlockFailed fun a na => ?_
        walk_at "go"
        exact hR _ _ ⟨rfl, hO1, hC1⟩
    intro σ' H' ⟨hσ, hO, hC'⟩
    subst hσ
    have hM' := hM.off hO hdis (hC.tups hO)
    have hoff' : Off (M.all d ++ F.all r) _ H' := hO.sub fun b hb => List.mem_append_right _ hb
    clear hO
    have ho := hM'.obj
    unfold mineF at ho
    have a1 := hM'.br
    have hdc : ∀ a, a ∈ F.all r → a ∉ M.all d := fun a h1 h2 => hdis a h2 h1
    refine x_join (fun σ' H2 => σ' = [some (.ref r), some (.ref d), some (.int n), some (.bl b)] ∧ Off (M.all d) H' H2 ∧ MineAt H2 d M (c.wipeR (some n)).2 k es) (fun R hR => ?_) ?_
    · walk_at "go"
      refine x_iteB (fun hbr => ?_) (fun hbr => ?_)
      · walk_at "go"
        rw [if_pos hbr] at ew
        refine hR _ _ ⟨rfl, Off.refl, ?_⟩
        rw [ew]
        exact hM'
      · rw [if_neg (by rw [hbr]; decide)] at ew
        walk_at "go"
        refine x_ldone hM' hsz ⟨h0, h1⟩ hbr htr fun H2 hO2 hM2 => ?_
        walk_at "go"
        cases hw : c.well n.toNat false with
        | false =>
          rw [hw, if_neg (by decide)] at ew
          rw [hw] at hM2
          refine iteF ?_
          walk_at "go"
          refine hR _ _ ⟨rfl, hO2, ?_⟩
          rw [ew]
          exact hM2.congr said_tick rfl
        | true =>
          rw [hw, if_pos rfl] at ew
          rw [hw] at hM2
          refine iteT ?_
          have ho2 := hM2.obj
          unfold mineF at ho2
          have b1 := hM2.tr
          have b2 := hM2.cl
          have b3 := hM2.fl
          have b4 := hM2.br
          have b5 := hM2.la
          obtain ⟨lvs, b6, b7⟩ := hM2.lg
          have hOf := hO2
          clear hO2
          have zc : n < (((c.tick n.toNat true).clr).length : Int) := by
            show n < (c.clr.length : Int)
            omega
          walk_at "go"
          rename_i H3 hO3 hI3
          have f1 : H3 d = some (.dK (mineF M (c.tick n.toNat true))) := by unfold mineF; walk_at "hp"
          have f2 : H3 M.la = some (.lst ((c.lasts.map lastI).map V.int)) := by walk_at "hp"
          have f3 : H3 M.fl = some (.lst (k.fil.map V.int)) := by walk_at "hp"
          have f4 : H3 M.cl = some (.lst ((c.clr.set n.toNat (c.clr.getD n.toNat 0 + 1)).map V.int)) := by
            rw [List.map_set]
            exact hI3
          have f5 : H3 M.lg = some (.lst lvs) := by walk_at "hp"
          have f6 : H3 M.tr = some (.lst ((c.tick n.toNat true).tried.map V.int)) := by walk_at "hp"
          have f7 : H3 M.br = some (.lst ((c.tick n.toNat true).broken.map V.bl)) := by walk_at "hp"
          have hoff : Off (M.all d) H2 H3 := by unfold MF.all; walk_at "off"
          refine hR _ _ ⟨rfl, hOf.trans hoff, ?_⟩
          rw [ew]
          exact ⟨f1, f6, f4, f3, f7, f2, ⟨lvs, f5, b7.mono (tups_of hM2.there hoff)⟩, hM.nd⟩
    intro σ' H2 ⟨hσ, hO2, hM2⟩
    subst hσ
    have hC2 := hC'.off hO2 hdc (tups_of hM'.there hO2)
    have hoff2 : Off (M.all d ++ F.all r) _ H2 := hoff'.trans (hO2.sub fun b hb => List.mem_append_left _ hb)
    clear hO2
    have ho2 := hM2.obj
    unfold mineF at ho2
    have b4 := hM2.br
    have z5 : n < ((c.wipeR (some n)).2.broken.length : Int) := by
      have := hC2.sz.broken
      have e : (c.wipeR (some n)).2.b = c.b := by
        rw [ew]
        repeat' split
        all_goals rfl
      omega
    walk_at "go"
    rw [hR2]
    have e : (!decide (b = !b)) = true := by cases b <;> rfl
    rw [e]
    exact q H2 hoff2 hC2 hM2
theorem goodL_len {c : Cs} (h : Sizes c) : (goodL c).length ≤ 16 := by
  unfold goodL
  have := List.length_filter_le (fun n => !c.broken.getD n false) (List.range c.b.toNat)
  rw [List.length_range] at this
  have := h.b
  omega
theorem freeP_len {c : Cs} {k : Bk} (h : Sizes c) : (sortP (freeP c k)).length ≤ 16 := by
  rw [(sortP_perm _).length_eq]
  unfold freeP
  rw [List.length_map]
  have l1 := List.length_filter_le (fun n => decide (k.fil.getD n 0 = 0)) (goodL c)
  have := goodL_len h
  omega
theorem x_lnumG {H : Hp} {Q : VK} {E : XK} {p g : Addr} {ns : List Nat} (hp : H p = some (.lst (ns.map fun n : Nat => V.int (n : Int)))) (hq : H g = some (.lst (ns.map fun n : Nat => V.int (n : Int)))) (hl : ns.length ≤ 1000) (q : ∀ H', Same H H' → Q (.bl true) H') : spNumbers K [.ref p, .ref g] H Q E :=
  ⟨p, g, ns.map fun n : Nat => (n : Int), rfl, by rw [List.map_map]; exact hp, by rw [List.map_map]; exact hq, by rw [List.length_map]; exact hl, q⟩
theorem x_lnumF {H : Hp} {Q : VK} {E : XK} {p g : Addr} {ns : List (Int × Int)} (hp : H p = some (.lst (ns.map fun e => V.int e.2))) (hq : H g = some (.lst (ns.map fun e => V.int e.2))) (hl : ns.length ≤ 1000) (q : ∀ H', Same H H' → Q (.bl true) H') : spNumbers K [.ref p, .ref g] H Q E :=
  ⟨p, g, ns.map fun e => e.2, rfl, by rw [List.map_map]; exact hp, by rw [List.map_map]; exact hq, by rw [List.length_map]; exact hl, q⟩
theorem x_lsame {H : Hp} {Q : VK} {E : XK} {o : Option Int} (q : Q (.bl true) H) : spSame [iV o, iV o] H Q E := ⟨o, rfl, q⟩
def oI (o : Option Nat) : Option Int := o.map fun n : Nat => (n : Int)
theorem oV_iV {o : Option Nat} : oV o = iV (oI o) := by cases o <;> rfl
theorem spot_next {c : Cs} {k : Bk} : (spotO c k).isSome = (nextO c k).isSome := by
  unfold spotO
  rw [Option.isSome_map]
def spAsks (T : Txt K mg) : Sp := fun vs H Q _ => ∃ (r d : Addr) (P : PF) (t : Ts) (c : Cs) (k : Bk) (M : MF) (es : List (Int × Int × Int)), vs = [.ref r, .ref d] ∧ PlainAt T H r P t c k ∧ MineAt H d M c k es ∧ ∀ H', Same H H' → Q (.bl true) H'
theorem ok_asks (T : Txt K mg) : FO P w K mg base 9 T.a__law_asks T.fd__law_asks ["_law_store", "_law_mine"] (spAsks T) := by
  have sc := sc__law_asks
  refine T.F__law_asks.okX sc (fun vs H Q E h => ?_) (fun cdv A outer s H vs Q E hr h => ?_)
  · obtain ⟨_, _, _, _, _, _, _, _, rfl, _⟩ := h
    rfl
  · obtain ⟨r, d, P0, t, c, k, M, es, rfl, hP, hM, q⟩ := h
    refine ⟨_, (pss_cons (ps_set (i := 2) sc.nd rfl (by first | exact Or.inl rfl | exact Or.inr rfl) (pe_methD0 (k := 6) (pv 0) (hr.mono (by decide)) (passAt (takes_of rfl rfl rfl rfl))))
      (pss_cons (ps_set (i := 3) sc.nd rfl (by first | exact Or.inl rfl | exact Or.inr rfl) (pe_methD0 (k := 5) (pv 0) (hr.mono (by decide)) (passAt (takes_of rfl rfl rfl rfl))))
      (pss_cons (ps_if (PW.pt (pw_or (pt_not (pt_truth (pe_callS (ok_numbers T) (hr.mono (by decide)) (by rfl) T.g__law_numbers T.k__law_numbers T.bd__law_numbers (passAt (takes_of rfl rfl rfl rfl)) (pa_cons (pv 3) (pa_cons (pe_callS (ok_good T) (hr.mono (by decide)) (by rfl) T.g__law_good T.k__law_good T.bd__law_good (passAt (takes_of rfl rfl rfl rfl)) (pa_cons (pv 1) pa_nil)) pa_nil))) (by intro _; rfl))) (pw_or1 (pt_not (pt_truth (pe_callS (ok_numbers T) (hr.mono (by decide)) (by rfl) T.g__law_numbers T.k__law_numbers T.bd__law_numbers (passAt (takes_of rfl rfl rfl rfl)) (pa_cons (pv 2) (pa_cons (pe_callS (ok_free T) (hr.mono (by decide)) (by rfl) T.g__law_free T.k__law_free T.bd__law_free (passAt (takes_of rfl rfl rfl rfl)) (pa_cons (pv 1) pa_nil)) pa_nil))) (by intro _; rfl)))))) (pss_one (ps_ret pe_bl)) pss_nil)
      (pss_cons (ps_expr (pe_bm PySem.F.plainAttrs_list PySem.F.slot_list_append PySem.F.type_list_append mt_append (pv 2) (pa_cons pe_int pa_nil)))
      (pss_cons (ps_expr (pe_bm0 PySem.F.plainAttrs_list PySem.F.slot_list_clear PySem.F.type_list_clear mt_clear (pv 3)))
      (pss_cons (ps_if (pt_not (pt_truth (pe_callS (ok_numbers T) (hr.mono (by decide)) (by rfl) T.g__law_numbers T.k__law_numbers T.bd__law_numbers (passAt (takes_of rfl rfl rfl rfl)) (pa_cons (pe_methD0 (k := 5) (pv 0) (hr.mono (by decide)) (passAt (takes_of rfl rfl rfl rfl))) (pa_cons (pe_callS (ok_good T) (hr.mono (by decide)) (by rfl) T.g__law_good T.k__law_good T.bd__law_good (passAt (takes_of rfl rfl rfl rfl)) (pa_cons (pv 1) pa_nil)) pa_nil))) (by intro _; rfl))) (pss_one (ps_ret pe_bl)) pss_nil)
      (pss_cons (ps_if (PW.pt (pw_or (pt_not (pt_truth (pe_callS (ok_numbers T) (hr.mono (by decide)) (by rfl) T.g__law_numbers T.k__law_numbers T.bd__law_numbers (passAt (takes_of rfl rfl rfl rfl)) (pa_cons (pe_methD0 (k := 6) (pv 0) (hr.mono (by decide)) (passAt (takes_of rfl rfl rfl rfl))) (pa_cons (pe_callS (ok_free T) (hr.mono (by decide)) (by rfl) T.g__law_free T.k__law_free T.bd__law_free (passAt (takes_of rfl rfl rfl rfl)) (pa_cons (pv 1) pa_nil)) pa_nil))) (by intro _; rfl))) (pw_or1 (pt_not (pt_truth (pe_callS (ok_same T) (hr.mono (by decide)) (by rfl) T.g__law_same T.k__law_same T.bd__law_same (passAt (takes_of rfl rfl rfl rfl)) (pa_cons (pe_methD0 (k := 6) (pv 0) (hr.mono (by decide)) (passAt (takes_of rfl rfl rfl rfl))) (pa_cons (pe_callS (ok_part T) (hr.mono (by decide)) (by rfl) T.g__law_part T.k__law_part T.bd__law_part (passAt (takes_of rfl rfl rfl rfl)) (pa_cons (pv 1) pa_nil)) pa_nil))) (by intro _; rfl)))))) (pss_one (ps_ret pe_bl)) pss_nil)
      (pss_cons (ps_if (PW.pt (pw_or (pt_not (pt_truth (pe_callS (ok_same T) (hr.mono (by decide)) (by rfl) T.g__law_same T.k__law_same T.bd__law_same (passAt (takes_of rfl rfl rfl rfl)) (pa_cons (pe_methD0 (k := 1) (pv 0) (hr.mono (by decide)) (passAt (takes_of rfl rfl rfl rfl))) (pa_cons pe_int pa_nil))) (by intro _; rfl))) (pw_or1 (pt_not (pt_truth (pe_callS (ok_same T) (hr.mono (by decide)) (by rfl) T.g__law_same T.k__law_same T.bd__law_same (passAt (takes_of rfl rfl rfl rfl)) (pa_cons (pe_methD0 (k := 7) (pv 0) (hr.mono (by decide)) (passAt (takes_of rfl rfl rfl rfl))) (pa_cons (pe_callS (ok_spot T) (hr.mono (by decide)) (by rfl) T.g__law_spot T.k__law_spot T.bd__law_spot (passAt (takes_of rfl rfl rfl rfl)) (pa_cons (pv 1) pa_nil)) pa_nil))) (by intro _; rfl)))))) (pss_one (ps_ret pe_bl)) pss_nil)
      (pss_cons (ps_set (i := 4) sc.nd rfl (by first | exact Or.inl rfl | exact Or.inr rfl) (pe_methD0 (k := 7) (pv 0) (hr.mono (by decide)) (passAt (takes_of rfl rfl rfl rfl))))
      (pss_one (ps_ret (pe_andT (pe_callB (cr_uisinstance) (by rfl) T.b_isinstance bt_isinstance (pa_cons (pv 4) (pa_cons (pe_bltn (v := .ty "bool") (by rfl) T.b_bool bt_bool rfl) pa_nil))) (pe_one (pe_cmpR (op_uEq hr.units) (pv 4) (pe_cmpR op_uIsNot (pe_callS (ok_spot T) (hr.mono (by decide)) (by rfl) T.g__law_spot T.k__law_spot T.bd__law_spot (passAt (takes_of rfl rfl rfl rfl)) (pa_cons (pv 1) pa_nil)) pe_non (nomark _)) (nomark _))))))))))))))), ?_⟩
    have hsz := hP.chip.sz
    have zf : ((k.fil.length : Nat) : Int) = c.b := by rw [hP.bok.fil, hP.same.2.2.1]
    have gl := goodL_len hsz
    have fl := freeP_len (k := k) hsz
    walk_at "begin"
    walk_at "go"
    refine x_mPFree hP fun p1 H1 hs1 hp1 hn1 => ?_
    have hP1 := hP.mono hs1
    walk_at "go"
    refine x_mPGood hP1 fun p2 H2 hs2 hp2 hn2 => ?_
    have s02 := hs1.trans hs2
    have hp20 : H p2 = none := same_none hs1 hp2
    have hM2 := hM.mono s02
    walk_at "go"
    refine x_join (fun σ' H' => σ' = [some (.ref r), some (.ref d), some (.ref p1), some (.ref p2), none] ∧ Same H2 H') (fun R hR => ?_) ?_
    · walk_at "go"
      refine x_lgood hM2 hsz fun p3 H3 hs3 hp3 hn3 => ?_
      walk_at "go"
      refine x_lnumG (hs3 _ _ hn2) hn3 (by omega) fun H4 hs4 => ?_
      have s24 := hs3.trans hs4
      have hM4 := hM2.mono s24
      walk_at "go"
      refine x_lfree hM4 hsz zf fun p5 H5 hs5 hp5 hn5 => ?_
      walk_at "go"
      refine x_lnumF (hs5 _ _ (s24 _ _ (hs2 _ _ hn1))) hn5 (by omega) fun H6 hs6 => ?_
      walk_at "go"
      exact hR _ _ ⟨rfl, (s24.trans hs5).trans hs6⟩
    intro σ' H3 ⟨hσ, hs3⟩
    subst hσ
    have hp13 := hs3 _ _ (hs2 _ _ hn1)
    have hp23 := hs3 _ _ hn2
    have n12 : p1 ≠ p2 := ne_of_none hn1 hp2
    have hx1 : ((sortP (freeP c k)).map fun e => V.int e.2).length < sizeLine := Nat.lt_of_le_of_lt (show _ ≤ 1000 by rw [List.length_map]; omega) (by decide)
    refine x_join (fun σ' H' => σ' = [some (.ref r), some (.ref d), some (.ref p1), some (.ref p2), none] ∧ Off [p1] H3 H') (fun R hR => ?_) ?_
    · walk_at "go"
      refine hR _ _ ⟨rfl, ?_⟩
      first | assumption | exact Off.upd (List.mem_singleton.mpr rfl)
    intro σ' H4 ⟨hσ, hO4⟩
    subst hσ
    have hp24 := hO4.at hp23 (nin_of n12.symm)
    refine x_join (fun σ' H' => σ' = [some (.ref r), some (.ref d), some (.ref p1), some (.ref p2), none] ∧ Off [p2] H4 H') (fun R hR => ?_) ?_
    · walk_at "go"
      refine hR _ _ ⟨rfl, ?_⟩
      first | assumption | exact Off.upd (List.mem_singleton.mpr rfl)
    intro σ' H5 ⟨hσ, hO5⟩
    subst hσ
    have s05 : Same H H5 := Off.same1 (Off.same1 (s02.trans hs3) hO4 hp1) hO5 hp20
    have hP5 := hP.mono s05
    have hM5 := hM.mono s05
    clear hO4 hO5 hp13 hp23 hp24 hn1 hn2 hs1 hs2 hs3 hP1 hM2 s02
    walk_at "if"
    refine x_mPGood hP5 fun p3 H6 hs6 hp6 hn6 => ?_
    have hM6 := hM5.mono hs6
    walk_at "go"
    refine x_lgood hM6 hsz fun p4 H7 hs7 hp7 hn7 => ?_
    walk_at "go"
    refine x_lnumG (hs7 _ _ hn6) hn7 (by omega) fun H8 hs8 => ?_
    have s58 := (hs6.trans hs7).trans hs8
    have hP8 := hP5.mono s58
    clear hs6 hs7 hs8 hn6 hn7 hM6
    walk_at "go"
    walk_at "if"
    refine x_mPFree hP8 fun p9 H9 hs9 hp9 hn9 => ?_
    have hM9 := hM5.mono (s58.trans hs9)
    walk_at "go"
    refine x_lfree hM9 hsz zf fun p10 H10 hs10 hp10 hn10 => ?_
    walk_at "go"
    refine x_lnumF (hs10 _ _ hn9) hn10 (by omega) fun H11 hs11 => ?_
    have s511 := ((s58.trans hs9).trans hs10).trans hs11
    have hP11 := hP5.mono s511
    clear s58 hs9 hs10 hs11 hn9 hn10 hM9 hP8
    walk_at "go"
    refine x_mPPart hP11 fun H12 hs12 => ?_
    have hM12 := hM5.mono (s511.trans hs12)
    walk_at "go"
    refine x_lpart hM12 hsz zf fun H13 hs13 => ?_
    rw [oV_iV]
    walk_at "go"
    refine x_lsame ?_
    have s513 := (s511.trans hs12).trans hs13
    have hP13 := hP5.mono s513
    clear s511 hs12 hs13 hM12 hP11
    walk_at "go"
    walk_at "if"
    refine x_mPRes hP13 ?_
    walk_at "go"
    refine x_lsame (o := some 0) ?_
    walk_at "go"
    refine x_mPSpot hP13 fun H14 hs14 => ?_
    have hM14 := hM5.mono (s513.trans hs14)
    walk_at "go"
    refine x_lspot hM14 hsz zf fun H15 hs15 => ?_
    walk_at "go"
    refine x_lsame ?_
    have s515 := (s513.trans hs14).trans hs15
    have hP15 := hP5.mono s515
    clear s513 hs14 hs15 hM14 hP13
    walk_at "go"
    refine x_mPReady hP15 fun H16 hs16 => ?_
    have s516 := s515.trans hs16
    have hM16 := hM5.mono s516
    walk_at "go"
    refine x_lspot hM16 hsz zf fun H17 hs17 => ?_
    have := q H17 ((s05.trans s516).trans hs17)
    have es := spot_next (c := c) (k := k)
    rw [← es]
    cases spotO c k with
    | none =>
      unfold iV
      walk_at "go"
      exact this
    | some m =>
      unfold iV
      walk_at "go"
      exact this
def spLSet (T : Txt K mg) : Sp := fun vs H Q _ => ∃ (r : Addr) (P : PF) (t : Ts) (c : Cs) (k : Bk) (n m : Int), vs = [.ref r, .int n, .int m] ∧ PlainAt T H r P t c k ∧ 0 ≤ n ∧ n < 128 ∧ c.log.length < 900000 ∧ k.wh.length < 900 ∧ k.stamp + 1 < 10 ^ 40 ∧
  (spotO c k = none → ∀ t H', Same H H' → H' t = some (.tup [.str "no room", .non]) → Q (.ref t) H') ∧
  (∀ pg, spotO c k = some pg → ∀ (a : Addr) (H1 : Hp), Same H H1 → H a = none → H1 a = some (.tup [.int (mk k.stamp n), .int m]) →
    ∀ H', Off P.mut H1 H' → (((c.putR (some pg) (.ref a)).1 = .ok ∧ (PlainAt T H' r P t (c.putR (some pg) (.ref a)).2 (k.note pg n) → ∀ t, H' t = some (.tup [.str "put", .int pg]) → Q (.ref t) H')) ∨
      (∃ b, (c.putR (some pg) (.ref a)).1 = .failed b ∧ (PlainAt T H' r P t (c.putR (some pg) (.ref a)).2 k → ∀ t, H' t = some (.tup [.str "failed", .int b]) → Q (.ref t) H'))))
theorem ok_set (T : Txt K mg) : FO P w K mg base 10 T.a__law_set T.fd__law_set ["_law_store", "_law_name", "_law_number"] (spLSet T) := by
  have sc := sc__law_set
  refine T.F__law_set.okX sc (fun vs H Q E h => ?_) (fun cdv A outer s H vs Q E hr h => ?_)
  · obtain ⟨_, _, _, _, _, _, _, rfl, _⟩ := h
    rfl
  · obtain ⟨r, P0, t, c, k, n, m, rfl, hP, h0, h1, hll, hwl, hst, q1, q2⟩ := h
    refine ⟨_, (pss_cons (ps_set (i := 3) sc.nd rfl (by first | exact Or.inl rfl | exact Or.inr rfl) pe_str)
      (pss_cons (ps_set (i := 4) sc.nd rfl (by first | exact Or.inl rfl | exact Or.inr rfl) pe_non)
      (pss_cons (ps_mix rfl rfl sc.nd (takes_of rfl rfl rfl rfl) (fun W2 pn2 xe2 hW2 hP2 => (pss_one (ps_if (pt_cmpR (K_eq (K := K) hr.units) (pe_op op_mod (pv 2) pe_int) pe_int (nomark _)) (pss_one (ps_set (i := 4) sc.nd rfl (by first | exact Or.inl rfl | exact Or.inr rfl) (K_methD (P := P) (w := w) (K := K) (mg := mg) (base := base) (k := 8) (pv 0) (hr.mono (by decide)) (passAt hW2) (pa_cons (pv 1) (pa_cons (pv 2) pa_nil))))) (pss_one (ps_set (i := 4) sc.nd rfl (by first | exact Or.inl rfl | exact Or.inr rfl) (K_methD (P := P) (w := w) (K := K) (mg := mg) (base := base) (k := 9) (pv 0) (hr.mono (by decide)) (passAt hW2) (pa_cons (pv 1) (pa_cons (pv 2) pa_nil)))))))) (Cl.asn (i := 5) rfl rfl ⟨rfl, rfl, Or.inl T.g_BlockFailed⟩ (fun a2 oe2 cls2 d2 pn2 hz2 hv2 => (pss_cons (ps_set (i := 3) sc.nd rfl (by first | exact Or.inl rfl | exact Or.inr rfl) pe_str)
      (pss_one (ps_set (i := 4) sc.nd rfl (by first | exact Or.inl rfl | exact Or.inr rfl) (pe_xf T.xi_BlockFailed.f T.nx_BlockFailed_block hz2 hv2 (pv 5)))))) (Cl.one ⟨rfl, rfl, Or.inl T.g_NoRoom⟩ (fun a2 oe2 cls2 d2 pn2 hz2 hv2 => (pss_one (ps_set (i := 3) sc.nd rfl (by first | exact Or.inl rfl | exact Or.inr rfl) pe_str))) Cl.nil)))
      (pss_one (ps_ret (pe_tup (pa_cons (pv 3) (pa_cons (pv 4) pa_nil)))))))), ?_⟩
    walk_at "begin"
    refine x_join (fun σ' H' => H' = H ∧ σ' = [some (.ref r), some (.int n), some (.int m), some (.str "put"), none, none]) (fun R hR => ?_) ?_
    · walk_at "go"
      exact hR _ _ ⟨rfl, rfl⟩
    intro σ' H' ⟨hH, hσ⟩
    subst hσ hH
    refine x_join (fun σ' H2 => H2 = H' ∧ σ' = [some (.ref r), some (.int n), some (.int m), some (.str "put"), some .non, none]) (fun R hR => ?_) ?_
    · walk_at "go"
      exact hR _ _ ⟨rfl, rfl⟩
    intro σ' H2 ⟨hH, hσ⟩
    subst hσ hH
    walk_at "go"
    refine x_iteD (fun _ => ?_) (fun _ => ?_)
    · walk_at "go"
      refine x_mPSetDown hP ?_
      walk_at "go"
      refine ⟨r, P0, t, c, k, n, _, rfl, hP, h0, h1, hll, hwl, hst, fun hn H1 hs1 => ?_, fun pg hpg a H1 hs1 ha hn1 H3 hO3 => ?_⟩
      · refine x_mixF T.em_NoRoom_BlockFailed (x_mixT T.em_NoRoom_NoRoom fun a na => ?_)
        dsimp only [inAs]
        walk_at "go"
        rename_i t1 H4 ht hs4 hn4
        exact q1 hn _ _ (hs1.trans hs4) hn4
      · rcases q2 pg hpg a H1 hs1 ha hn1 H3 hO3 with ⟨e, _⟩ | ⟨b, e, _⟩
        · refine .inl ⟨e, fun hP3 => ?_⟩
          walk_at "go"
          rename_i t1 H4 ht hs4 hn4
          rcases q2 pg hpg a H1 hs1 ha hn1 H4 (hO3.trans (Off.of hs4)) with ⟨_, q⟩ | ⟨b, e2, _⟩
          · exact q (hP3.mono hs4) _ hn4
          · rw [e] at e2; cases e2
        · refine .inr (.inr ⟨b, e, fun hP3 d hd => ?_⟩)
          refine x_mixT T.em_BlockFailed_BlockFailed fun x nx => ?_
          dsimp only [inAs]
          walk_at "go"
          refine x_xfK hd rfl ?_
          walk_at "go"
          rename_i t1 H4 ht hs4 hn4
          rcases q2 pg hpg a H1 hs1 ha hn1 H4 (hO3.trans (Off.of hs4)) with ⟨e2, _⟩ | ⟨b2, e2, q⟩
          · rw [e] at e2; cases e2
          · rw [e] at e2
            injection e2 with e2
            rw [← e2] at q
            exact q (hP3.mono hs4) _ hn4
    · walk_at "go"
      refine x_mPLay hP ?_
      walk_at "go"
      refine ⟨r, P0, t, c, k, n, _, rfl, hP, h0, h1, hll, hwl, hst, fun hn H1 hs1 => ?_, fun pg hpg a H1 hs1 ha hn1 H3 hO3 => ?_⟩
      · refine x_mixF T.em_NoRoom_BlockFailed (x_mixT T.em_NoRoom_NoRoom fun a na => ?_)
        dsimp only [inAs]
        walk_at "go"
        rename_i t1 H4 ht hs4 hn4
        exact q1 hn _ _ (hs1.trans hs4) hn4
      · rcases q2 pg hpg a H1 hs1 ha hn1 H3 hO3 with ⟨e, _⟩ | ⟨b, e, _⟩
        · refine .inl ⟨e, fun hP3 => ?_⟩
          walk_at "go"
          rename_i t1 H4 ht hs4 hn4
          rcases q2 pg hpg a H1 hs1 ha hn1 H4 (hO3.trans (Off.of hs4)) with ⟨_, q⟩ | ⟨b, e2, _⟩
          · exact q (hP3.mono hs4) _ hn4
          · rw [e] at e2; cases e2
        · refine .inr (.inr ⟨b, e, fun hP3 d hd => ?_⟩)
          refine x_mixT T.em_BlockFailed_BlockFailed fun x nx => ?_
          dsimp only [inAs]
          walk_at "go"
          refine x_xfK hd rfl ?_
          walk_at "go"
          rename_i t1 H4 ht hs4 hn4
          rcases q2 pg hpg a H1 hs1 ha hn1 H4 (hO3.trans (Off.of hs4)) with ⟨e2, _⟩ | ⟨b2, e2, q⟩
          · rw [e] at e2; cases e2
          · rw [e] at e2
            injection e2 with e2
            rw [← e2] at q
            exact q (hP3.mono hs4) _ hn4
def spUnready (T : Txt K mg) : Sp := fun vs H Q _ => ∃ (r : Addr) (P : PF) (t : Ts) (c : Cs) (k : Bk), vs = [.ref r] ∧ PlainAt T H r P t c k ∧ (nextO c k).isSome = false ∧ ∀ H', Same H H' → Q (.bl true) H'
theorem ok_unready (T : Txt K mg) : FO P w K mg base 9 T.a__law_unready T.fd__law_unready ["_law_store"] (spUnready T) := by
  have sc := sc__law_unready
  refine T.F__law_unready.okX sc (fun vs H Q E h => ?_) (fun cdv A outer s H vs Q E hr h => ?_)
  · obtain ⟨_, _, _, _, _, rfl, _⟩ := h
    rfl
  · obtain ⟨r, P0, t, c, k, rfl, hP, hno, q⟩ := h
    refine ⟨_, (pss_cons (ps_set (i := 1) sc.nd rfl (by first | exact Or.inl rfl | exact Or.inr rfl) pe_bl)
      (pss_cons (ps_try1 rfl rfl ⟨rfl, rfl, Or.inl T.g_NoRoom⟩ (takes_of rfl rfl rfl rfl) (fun W3 pn3 xe3 hW3 hP3 => (pss_one (ps_expr (K_methD0 (P := P) (w := w) (K := K) (mg := mg) (base := base) (k := 8) (pv 0) (hr.mono (by decide)) (passAt hW3))))) (fun a3 oe3 cls3 d3 pn3 hz3 hv3 => (pss_one (ps_set (i := 1) sc.nd rfl (by first | exact Or.inl rfl | exact Or.inr rfl) pe_bl))))
      (pss_one (ps_ret (pv 1))))), ?_⟩
    walk_at "begin"
    walk_at "go"
    refine x_mPMakeReady hP (fun h => ?_) (fun _ H1 hs1 => ?_)
    · rw [hno] at h; cases h
    · refine x_onlyT T.em_NoRoom_NoRoom fun a na => ?_
      walk_at "go"
      exact q H1 hs1
def spLies (T : Txt K mg) : Sp := fun vs H Q _ => ∃ (r a b : Addr) (F : CF) (c : Cs) (pg m v : Int), vs = [.ref r, .ref a] ∧ ChipAt T.C_Chip H r F c ∧ c.dark = false ∧ 0 ≤ pg ∧ pg < c.b * c.p ∧ H a = some (.tup [.int pg, .int m, .int v]) ∧ c.stuff.getD pg.toNat .non = .ref b ∧ H b = some (.tup [.int m, .int v]) ∧ Q (.bl true) H
theorem ok_lies (T : Txt K mg) : FO P w K mg base 5 T.a__law_lies T.fd__law_lies ["_law_chip", "_law_row"] (spLies T) := by
  have sc := sc__law_lies
  refine T.F__law_lies.okX sc (fun vs H Q E h => ?_) (fun cdv A outer s H vs Q E hr h => ?_)
  · obtain ⟨_, _, _, _, _, _, _, _, rfl, _⟩ := h
    rfl
  · obtain ⟨r, a, b, F, c, pg, m, v, rfl, hC, hd, h0, h1, ha, hst, hb, q⟩ := h
    refine ⟨_, (pss_cons (ps_set (i := 2) sc.nd rfl (by first | exact Or.inl rfl | exact Or.inr rfl) (pe_methD (k := 4) (pv 0) (hr.mono (by decide)) (passAt (takes_of rfl rfl rfl rfl)) (pa_cons (pe_ix ix_seq (pv 1) pe_int (fun _ _ => rfl)) pa_nil)))
      (pss_cons (ps_if (PW.pt (pw_or (pt_not (pt_truth (pe_callB (cr_uisinstance) (by rfl) T.b_isinstance bt_isinstance (pa_cons (pv 2) (pa_cons (pe_bltn (v := .ty "tuple") (by rfl) T.b_tuple bt_tuple rfl) pa_nil))) (by intro _; rfl))) (pw_or1 (pt_cmpR (op_uNe hr.units) (pe_callB (cr_ulen) (by rfl) T.b_len bt_len (pa_cons (pv 2) pa_nil)) pe_int (nomark _))))) (pss_one (ps_ret pe_bl)) pss_nil)
      (pss_one (ps_ret (pe_andT (pe_callS (ok_same T) (hr.mono (by decide)) (by rfl) T.g__law_same T.k__law_same T.bd__law_same (passAt (takes_of rfl rfl rfl rfl)) (pa_cons (pe_ix ix_seq (pv 2) pe_int (fun _ _ => rfl)) (pa_cons (pe_ix ix_seq (pv 1) pe_int (fun _ _ => rfl)) pa_nil))) (pe_one (pe_callS (ok_same T) (hr.mono (by decide)) (by rfl) T.g__law_same T.k__law_same T.bd__law_same (passAt (takes_of rfl rfl rfl rfl)) (pa_cons (pe_ix ix_seq (pv 2) pe_int (fun _ _ => rfl)) (pa_cons (pe_ix ix_seq (pv 1) pe_int (fun _ _ => rfl)) pa_nil))))))))), ?_⟩
    walk_at "begin"
    walk_at "go"
    refine x_mRead hC ?_
    walk_at "go"
    refine x_read hC hd ?_ ⟨h0, h1⟩
    rw [hst]
    walk_at "go"
    walk_at "if"
    refine x_iteD (fun _ => ?_) (fun h => absurd rfl h)
    walk_at "go"
    refine x_lsame (o := some m) ?_
    walk_at "go"
    refine x_lsame (o := some v) ?_
    exact q
theorem PutL.snoc {H : Hp} {vs : List V} {es : List (Int × Int × Int)} {v : V} {e : Int × Int × Int} (h : PutL H vs es) (hv : ∃ a, v = .ref a ∧ H a = some (.tup [.int e.1, .int e.2.1, .int e.2.2])) : PutL H (vs ++ [v]) (es ++ [e]) := by
  refine ⟨by simp [h.1], fun i x y h1 h2 => ?_⟩
  by_cases hi : i < vs.length
  · rw [List.getElem?_append_left hi] at h1
    rw [List.getElem?_append_left (h.1 ▸ hi)] at h2
    exact h.2 i x y h1 h2
  · have e : i = vs.length := by
      have := (List.getElem?_eq_some_iff.mp h1).1
      simp at this
      omega
    subst e
    rw [List.getElem?_append_right (Nat.le_refl _)] at h1
    rw [h.1, List.getElem?_append_right (Nat.le_refl _)] at h2
    simp at h1 h2
    subst h1 h2
    exact hv
/-! ### how the store stands ahead of a name -/
structure G14 (H : Hp) (c : Cs) (k : Bk) (es : List (Int × Int × Int)) (i : Nat) : Prop where
  left : c.left = none
  tr : ∀ x ∈ c.tried, 0 ≤ x
  log : c.log.length ≤ 100 + i
  fil : ∀ n, n < c.b.toNat → 0 ≤ k.fil.getD n 0 ∧ k.fil.getD n 0 ≤ c.p
  st : ∀ n j : Nat, n < c.b.toNat → k.fil.getD n 0 ≤ (j : Int) → (j : Int) < c.p → c.stuff.getD (n * c.p.toNat + j) .non = .non
  all : ∀ e ∈ es, 0 ≤ e.1 ∧ e.1 < c.b * c.p ∧ ∃ a, c.stuff.getD e.1.toNat .non = .ref a ∧ H a = some (.tup [.int e.2.1, .int e.2.2])
  stamp : k.stamp = (es.length : Int) + 1
  wh : k.wh.length ≤ es.length
  len : es.length ≤ i
  mu : spotO c k = none ∨ sumN (wt c k) c.b.toNat + (i : Int) ≤ c.b * c.p + c.b
structure Sp14 (c : Cs) (k : Bk) (pg : Int) (n : Nat) : Prop where
  h0 : 0 ≤ pg
  h1 : pg < c.b * c.p
  nx : nextO c k = some n
  nb : n < c.b.toNat
  f0 : 0 ≤ k.fil.getD n 0
  f1 : k.fil.getD n 0 < c.p
  br : c.broken.getD n false = false
  dv : pg / c.p = (n : Int)
  ix : pg.toNat = n * c.p.toNat + (k.fil.getD n 0).toNat
theorem sp14 {c : Cs} {k : Bk} {pg : Int} (hsz : Sizes c) (h : spotO c k = some pg) : ∃ n, Sp14 c k pg n := by
  obtain ⟨h0, h1, n, nx, e, nb, f0, f1, br⟩ := spotO_rng hsz.p.1 h
  have hp := hsz.p.1
  refine ⟨n, h0, h1, nx, nb, f0, f1, br, ?_, ?_⟩
  · rw [e, Int.add_comm, Int.add_mul_ediv_right _ _ (by omega), Int.ediv_eq_zero_of_lt f0 f1, Int.zero_add]
  · have e2 : ((n * c.p.toNat + (k.fil.getD n 0).toNat : Nat) : Int) = pg := by
      rw [Int.natCast_add, Int.natCast_mul, Int.toNat_of_nonneg f0, Int.toNat_of_nonneg (show 0 ≤ c.p by omega), e]
    rw [← e2, Int.toNat_natCast]
theorem getD_nonneg {l : List Int} (h : ∀ x ∈ l, 0 ≤ x) (n : Nat) : 0 ≤ l.getD n 0 := by
  by_cases hn : n < l.length
  · rw [List.getD_eq_getElem?_getD, List.getElem?_eq_getElem hn]
    exact h _ (List.getElem_mem hn)
  · rw [List.getD_eq_getElem?_getD, List.getElem?_eq_none (by omega)]
    exact Int.le_refl _
theorem wt_said {c : Cs} {k : Bk} {n m : Nat} {w : Bool} {e : Str × Int} (h : n < c.broken.length) : wt (c.said n w e) k m = if m = n then (if w = true then 1 + c.p - k.fil.getD n 0 else 0) else wt c k m := by
  show (if (c.broken.set n (!w)).getD m false = true then (0 : Int) else 1 + c.p - k.fil.getD m 0) = _
  rw [getD_set h]
  by_cases e1 : m = n
  · subst e1
    rw [if_pos rfl, if_pos rfl]
    cases w <;> rfl
  · rw [if_neg e1, if_neg e1]
    rfl
theorem tick_tried {c : Cs} {n : Nat} (h : ∀ x ∈ c.tried, 0 ≤ x) : ∀ x ∈ c.tried.set n (c.tried.getD n 0 + 1), 0 ≤ x := fun x hx => by
  rcases List.mem_or_eq_of_mem_set hx with hx | hx
  · exact h x hx
  · have := getD_nonneg h n
    omega
theorem g14_none {H H' : Hp} {c : Cs} {k : Bk} {es : List (Int × Int × Int)} {i : Nat} (h : G14 H c k es i) (hs : spotO c k = none) (ht : TupS H H') : G14 H' c k es (i + 1) :=
  ⟨h.left, h.tr, by have := h.log; omega, h.fil, h.st, fun x hx => by
    obtain ⟨a0, a1, a, a2, a3⟩ := h.all x hx
    exact ⟨a0, a1, a, a2, ht _ _ a3⟩, h.stamp, h.wh, Nat.le_succ_of_le h.len, .inl hs⟩
theorem g14_fail {H H' : Hp} {c : Cs} {k : Bk} {es : List (Int × Int × Int)} {i : Nat} {pg : Int} {n : Nat} {e : Str × Int} (h : G14 H c k es i) (hsz : Sizes c) (hsp : spotO c k = some pg) (s : Sp14 c k pg n) (ht : TupS H H') : G14 H' (c.said n false e) k es (i + 1) := by
  have hbl : n < c.broken.length := by
    have := hsz.broken
    have := s.nb
    omega
  refine ⟨?_, tick_tried h.tr, ?_, h.fil, h.st, fun x hx => ?_, h.stamp, h.wh, Nat.le_succ_of_le h.len, .inr ?_⟩
  · show c.left.map _ = _
    rw [h.left]
    rfl
  · show (c.log ++ [_]).length ≤ _
    have := h.log
    rw [List.length_append, List.length_singleton]
    omega
  · obtain ⟨a0, a1, a, a2, a3⟩ := h.all x hx
    exact ⟨a0, a1, a, a2, ht _ _ a3⟩
  · rcases h.mu with hm | hm
    · rw [hsp] at hm; cases hm
    have hl := sumN_lt (w := wt c k) (w' := wt (c.said n false e) k) (n := n) (B := c.b.toNat) (fun m hmb => by
      rw [wt_said hbl]
      by_cases e1 : m = n
      · subst e1
        rw [if_pos rfl, if_neg (by decide)]
        unfold wt
        have := h.fil m hmb
        split <;> omega
      · rw [if_neg e1]
        exact Int.le_refl _) s.nb (by
      rw [wt_said hbl, if_pos rfl, if_neg (by decide)]
      unfold wt
      rw [if_neg (by rw [s.br]; decide)]
      have := s.f1
      omega)
    show sumN (wt (c.said n false e) k) c.b.toNat + ((i + 1 : Nat) : Int) ≤ c.b * c.p + c.b
    rw [Int.natCast_succ]
    omega
theorem g14_ok {H H' : Hp} {c : Cs} {k : Bk} {es : List (Int × Int × Int)} {i : Nat} {pg nm v : Int} {n : Nat} {a : Addr} {e : Str × Int} (h : G14 H c k es i) (hsz : Sizes c) (hk : BkOk k) (hkb : k.b = c.b ∧ k.p = c.p) (hsp : spotO c k = some pg) (s : Sp14 c k pg n) (ht : TupS H H') (ha : H' a = some (.tup [.int (mk k.stamp nm), .int v])) :
    G14 H' { c.said n true e with stuff := c.stuff.set pg.toNat (.ref a) } (k.note pg nm) (es ++ [(pg, mk k.stamp nm, v)]) (i + 1) := by
  have nb := s.nb
  have hbl : n < c.broken.length := by
    have := hsz.broken
    omega
  have hfl : n < k.fil.length := by
    have := hk.fil
    have := hkb.1
    omega
  have hst : pg.toNat < c.stuff.length := by
    have := hsz.stuff
    have := s.h0
    have := s.h1
    omega
  have fk : (k.note pg nm).fil = k.fil.set n (k.fil.getD n 0 + 1) := by rw [note_fil, hkb.2, s.dv, Int.toNat_natCast]
  have f0 := s.f0
  have f1 := s.f1
  have was : c.stuff.getD pg.toNat .non = .non := by
    rw [s.ix]
    exact h.st n _ nb (by omega) (by omega)
  refine ⟨?_, tick_tried h.tr, ?_, fun m hm => ?_, fun m j hm h1 h2 => ?_, fun x hx => ?_, ?_, ?_, ?_, .inr ?_⟩
  · show c.left.map _ = _
    rw [h.left]
    rfl
  · show (c.log ++ [_]).length ≤ _
    have := h.log
    rw [List.length_append, List.length_singleton]
    omega
  · rw [fk, getD_set hfl]
    have := h.fil m hm
    split
    · rename_i e1
      subst e1
      show _ ∧ _ ≤ c.p
      omega
    · exact this
  · rw [fk, getD_set hfl] at h1
    show (c.stuff.set pg.toNat (.ref a)).getD (m * c.p.toNat + j) .non = .non
    rw [getD_set hst]
    have h2' : (j : Int) < c.p := h2
    have hne : m * c.p.toNat + j ≠ pg.toNat := fun z => by
      rw [s.ix] at z
      have hp : 0 < c.p.toNat := by omega
      have z2 := congrArg (· / c.p.toNat) z
      simp only [Nat.mul_comm _ c.p.toNat, Nat.mul_add_div hp] at z2
      rw [Nat.div_eq_of_lt (by omega), Nat.div_eq_of_lt (by omega)] at z2
      have e1 : m = n := by omega
      subst e1
      rw [if_pos rfl] at h1
      omega
    rw [if_neg hne]
    refine h.st m j hm ?_ h2'
    split at h1
    · rename_i e1
      subst e1
      omega
    · exact h1
  · show 0 ≤ x.1 ∧ x.1 < c.b * c.p ∧ ∃ a', (c.stuff.set pg.toNat (.ref a)).getD x.1.toNat .non = .ref a' ∧ _
    rcases List.mem_append.mp hx with hx | hx
    · obtain ⟨a0, a1, a', a2, a3⟩ := h.all x hx
      refine ⟨a0, a1, a', ?_, ht _ _ a3⟩
      rw [getD_set hst]
      split
      · rename_i e1
        rw [e1, was] at a2
        cases a2
      · exact a2
    · rw [List.mem_singleton.mp hx]
      exact ⟨s.h0, s.h1, a, by rw [getD_set hst, if_pos rfl], ha⟩
  · rw [note_st, h.stamp, List.length_append, List.length_singleton, Int.natCast_add]
    rfl
  · have h1 := note_whl (k := k) (pg := pg) (n := nm)
    have h2 := h.wh
    rw [List.length_append, List.length_singleton]
    omega
  · rw [List.length_append, List.length_singleton]
    exact Nat.succ_le_succ h.len
  · rcases h.mu with hm | hm
    · rw [hsp] at hm; cases hm
    have ew : ∀ m, wt { c.said n true e with stuff := c.stuff.set pg.toNat (.ref a) } (k.note pg nm) m = if m = n then c.p - k.fil.getD n 0 else wt c k m := fun m => by
      show (if (c.broken.set n (!true)).getD m false = true then (0 : Int) else 1 + c.p - (k.note pg nm).fil.getD m 0) = _
      rw [getD_set hbl, fk, getD_set hfl]
      by_cases e1 : m = n
      · rw [if_pos e1, if_pos e1, if_pos e1, if_neg (by decide)]
        omega
      · rw [if_neg e1, if_neg e1, if_neg e1]
        rfl
    have wn : wt c k n = 1 + c.p - k.fil.getD n 0 := by
      unfold wt
      rw [if_neg (by rw [s.br]; decide)]
    have hl := sumN_lt (w := wt c k) (w' := wt { c.said n true e with stuff := c.stuff.set pg.toNat (.ref a) } (k.note pg nm)) (n := n) (B := c.b.toNat) (fun m hmb => by
      rw [ew]
      split
      · rename_i e1
        rw [e1, wn]
        omega
      · exact Int.le_refl _) nb (by
      rw [ew, if_pos rfl, wn]
      omega)
    show sumN (wt _ _) c.b.toNat + ((i + 1 : Nat) : Int) ≤ c.b * c.p + c.b
    rw [Int.natCast_succ]
    omega
def tup2D (w : Str) (d : PyData) : PyData := .tuple [.str w, d]
def spStep (T : Txt K mg) : Sp := fun vs H Q _ => ∃ (r d : Addr) (cell : Int) (P : PF) (t : Ts) (c : Cs) (k : Bk) (M : MF) (es : List (Int × Int × Int)) (i : Nat), vs = [.ref r, .ref d, .int cell] ∧ PlainAt T H r P t c k ∧ MineAt H d M c k es ∧ (∀ a ∈ M.all d, a ∉ P.mut) ∧ r ∉ M.all d ∧ P.rt ∉ M.all d ∧ G14 H c k es i ∧ i < 100 ∧
  ∀ H' c' k' es', Off (M.all d ++ P.mut) H H' → PlainAt T H' r P t c' k' → MineAt H' d M c' k' es' → G14 H' c' k' es' (i + 1) → Q (.bl true) H'
theorem ok_step (T : Txt K mg) : FO P w K mg base 11 T.a__law_step T.fd__law_step ["_law_store", "_law_mine", "_law_cell"] (spStep T) := by
  have sc := sc__law_step
  refine T.F__law_step.okX sc (fun vs H Q E h => ?_) (fun cdv A outer s H vs Q E hr h => ?_)
  · obtain ⟨_, _, _, _, _, _, _, _, _, _, rfl, _⟩ := h
    rfl
  · obtain ⟨r, d, cell, P0, t, c, k, M, es, i, rfl, hP, hM, hdis, nr, nt, g, hi, q⟩ := h
    refine ⟨_, (pss_cons (ps_set (i := 3) sc.nd rfl (by first | exact Or.inl rfl | exact Or.inr rfl) (pe_callS (ok_spot T) (hr.mono (by decide)) (by rfl) T.g__law_spot T.k__law_spot T.bd__law_spot (passAt (takes_of rfl rfl rfl rfl)) (pa_cons (pv 1) pa_nil)))
      (pss_cons (ps_set (i := 4) sc.nd rfl (by first | exact Or.inl rfl | exact Or.inr rfl) (pe_op op_mod (pv 2) pe_int))
      (pss_cons (ps_set (i := 5) sc.nd rfl (by first | exact Or.inl rfl | exact Or.inr rfl) (pe_op op_mod (pe_op op_uMul (pv 2) pe_int) (pe_op op_pow pe_int pe_int)))
      (pss_cons (ps_if (pt_cmpR (op_uEq hr.units) (pv 4) pe_int (nomark _)) (pss_one (ps_set (i := 5) sc.nd rfl (by first | exact Or.inl rfl | exact Or.inr rfl) (pe_op op_mod (pv 5) (pe_op op_pow pe_int pe_int)))) pss_nil)
      (pss_cons (ps_if (pt_cmpR op_uIs (pv 3) pe_non (nomark _)) (pss_one (ps_ret (pe_andT (pe_callS (ok_unready T) (hr.mono (by decide)) (by rfl) T.g__law_unready T.k__law_unready T.bd__law_unready (passAt (takes_of rfl rfl rfl rfl)) (pa_cons (pv 0) pa_nil)) (pe_one (pe_cmpR (op_uEq hr.units) (pe_callS (ok_set T) (hr.mono (by decide)) (by rfl) T.g__law_set T.k__law_set T.bd__law_set (passAt (takes_of rfl rfl rfl rfl)) (pa_cons (pv 0) (pa_cons (pv 4) (pa_cons (pv 5) pa_nil)))) (pe_tup (pa_cons pe_str (pa_cons pe_non pa_nil))) (nomark _)))))) pss_nil)
      (pss_cons (ps_if (pt_cmpR op_uIsNot (pe_methD0 (k := 8) (pv 0) (hr.mono (by decide)) (passAt (takes_of rfl rfl rfl rfl))) pe_non (nomark _)) (pss_one (ps_ret pe_bl)) pss_nil)
      (pss_cons (ps_set (i := 6) sc.nd rfl (by first | exact Or.inl rfl | exact Or.inr rfl) (pe_op op_fdivW (pv 3) (pe_dget (hu_of hr) (pv 1) pe_str (fun _ _ => rfl))))
      (pss_cons (ps_if (pt_not (pt_truth (pe_callS (ok_done T) (hr.mono (by decide)) (by rfl) T.g__law_done T.k__law_done T.bd__law_done (passAt (takes_of rfl rfl rfl rfl)) (pa_cons (pv 1) (pa_cons (pv 6) pa_nil))) (by intro _; rfl))) (pss_one (ps_ret (pe_cmpR (op_uEq hr.units) (pe_callS (ok_set T) (hr.mono (by decide)) (by rfl) T.g__law_set T.k__law_set T.bd__law_set (passAt (takes_of rfl rfl rfl rfl)) (pa_cons (pv 0) (pa_cons (pv 4) (pa_cons (pv 5) pa_nil)))) (pe_tup (pa_cons pe_str (pa_cons (pv 6) pa_nil))) (nomark _)))) pss_nil)
      (pss_cons (ps_asg (pe_op op_uAdd (pe_ix ix_seq (pe_dget (hu_of hr) (pv 1) pe_str (fun _ _ => rfl)) (pv 6) (fun _ _ => rfl)) pe_int) (pg_sub (pe_dget (hu_of hr) (pv 1) pe_str (fun _ _ => rfl)) (pv 6) set_list))
      (pss_cons (ps_expr (pe_bm PySem.F.plainAttrs_list PySem.F.slot_list_append PySem.F.type_list_append mt_append (pe_dget (hu_of hr) (pv 1) pe_str (fun _ _ => rfl)) (pa_cons (pe_tup (pa_cons (pv 3) (pa_cons (pe_op op_uAdd (pe_op op_uMul (pe_op op_uAdd (pe_callB (cr_ulen) (by rfl) T.b_len bt_len (pa_cons (pe_dget (hu_of hr) (pv 1) pe_str (fun _ _ => rfl)) pa_nil)) pe_int) pe_int) (pv 4)) (pa_cons (pv 5) pa_nil)))) pa_nil)))
      (pss_cons (ps_asg (pe_callS (ok_set T) (hr.mono (by decide)) (by rfl) T.g__law_set T.k__law_set T.bd__law_set (passAt (takes_of rfl rfl rfl rfl)) (pa_cons (pv 0) (pa_cons (pv 4) (pa_cons (pv 5) pa_nil)))) (pg_tup (by rfl) (pgs_cons (pg_name (i := 7) sc.nd rfl (by first | exact Or.inl rfl | exact Or.inr rfl)) (pgs_cons (pg_name (i := 8) sc.nd rfl (by first | exact Or.inl rfl | exact Or.inr rfl)) pgs_nil))))
      (pss_one (ps_ret (pe_andT (pe_cmpR (op_uEq hr.units) (pv 7) pe_str (nomark _)) (pe_one (pe_callS (ok_same T) (hr.mono (by decide)) (by rfl) T.g__law_same T.k__law_same T.bd__law_same (passAt (takes_of rfl rfl rfl rfl)) (pa_cons (pv 8) (pa_cons (pv 3) pa_nil)))))))))))))))))), ?_⟩
    have hsz := hP.chip.sz
    have zf : ((k.fil.length : Nat) : Int) = c.b := by rw [hP.bok.fil, hP.same.2.2.1]
    have hdk : c.dark = false := by unfold Cs.dark; rw [g.left]; rfl
    have hll : c.log.length < 900000 := by have := g.log; omega
    have hwl : k.wh.length < 900 := by have := g.wh; have := g.len; omega
    have hst : k.stamp + 1 < 10 ^ 40 := Int.lt_trans (show k.stamp + 1 < 1000 by have := g.stamp; have := g.len; omega) (by decide)
    walk_at "begin"
    walk_at "go"
    refine x_lspot hM hsz zf fun H1 hs1 => ?_
    have hP1 := hP.mono hs1
    have hM1 := hM.mono hs1
    walk_at "go"
    have hnm : 0 ≤ cell % 65 ∧ cell % 65 < 128 := by omega
    generalize cell % 65 = nm at hnm ⊢
    generalize cell * 48271 % 10 ^ 30 = m0
    refine x_join (fun σ' H' => ∃ m : Int, σ' = [some (.ref r), some (.ref d), some (.int cell), some (iV (spotO c k)), some (.int nm), some (.int m), none, none, none] ∧ H' = H1) (fun R hR => ?_) ?_
    · walk_at "go"
      refine x_iteD (fun _ => ?_) (fun _ => ?_)
      · walk_at "go"
        exact hR _ _ ⟨_, rfl, rfl⟩
      · walk_at "go"
        exact hR _ _ ⟨_, rfl, rfl⟩
    intro σ' H' ⟨m, hσ, hH⟩
    subst hσ hH
    cases hsp : spotO c k with
    | none =>
      unfold iV
      walk_at "if"
      refine iteT ?_
      have hno : (nextO c k).isSome = false := by rw [← spot_next, hsp]; rfl
      walk_at "go"
      refine ⟨r, P0, t, c, k, rfl, hP1, hno, fun H2 hs2 => ?_⟩
      have hP2 := hP1.mono hs2
      walk_at "go"
      refine ⟨r, P0, t, c, k, nm, m, rfl, hP2, hnm.1, hnm.2, hll, hwl, hst, fun _ tt H3 hs3 ht3 => ?_, fun pg hpg => ?_⟩
      · walk_at "go"
        rename_i tu H4 htu hs4 hn4
        refine x_eqS2 (d := tup2D "no room" .none) (.tup (SqT.of (hs4 _ _ ht3)) (.cons (.str _) (.cons .non .nil))) (.tup (SqT.of hn4) (.cons (.str _) (.cons .non .nil))) (Sh.tup (k := 8) fun x h => ?_) ?_
        · simp only [List.mem_cons, List.not_mem_nil, or_false] at h
          rcases h with rfl | rfl
          · exact Sh.str (by decide +kernel)
          · exact Sh.non
        · have s4 := ((hs1.trans hs2).trans hs3).trans hs4
          exact q H4 c k es (Off.of s4) (hP.mono s4) (hM.mono s4) (g14_none g hsp (TupS.of s4))
      · rw [hsp] at hpg; cases hpg
    | some pg =>
      obtain ⟨n, s⟩ := sp14 hsz hsp
      have hye : (nextO c k).isSome = true := by rw [← spot_next, hsp]; rfl
      unfold iV
      walk_at "if"
      refine iteF ?_
      walk_at "go"
      walk_at "if"
      refine x_mPMakeReady hP1 (fun _ H2 hs2 => ?_) (fun h => by rw [hye] at h; cases h)
      walk_at "go"
      refine iteT ?_
      have hM2 := hM1.mono hs2
      have hP2 := hP1.mono hs2
      have ho2 := hM2.obj
      unfold mineF at ho2
      have hpp := hsz.p
      have nb := s.nb
      walk_at "go"
      rw [s.dv]
      walk_at "if"
      have hnb : 0 ≤ (n : Int) ∧ (n : Int) < c.b := by omega
      refine x_ldone hM2 hsz hnb (by rw [Int.toNat_natCast]; exact s.br) g.tr fun H3 hO3 hM3 => ?_
      rw [Int.toNat_natCast] at hM3 ⊢
      have was : c.stuff.getD pg.toNat .non = .non := by
        rw [s.ix]
        have := s.f0
        have := s.f1
        exact g.st n _ nb (by omega) (by omega)
      have hpl := fun v => put_place (v := v) s.h0 s.h1 hdk s.dv s.br was
      have hdis' : ∀ a, a ∈ P0.mut → a ∉ M.all d := fun a h1 h2 => hdis a h2 h1
      have t3 : TupS _ H3 := tups_of hM2.there hO3
      have hP3 := hP2.off hO3 hdis' nr nt t3
      have s02 := hs1.trans hs2
      have o3 : Off (M.all d ++ P0.mut) H H3 := (Off.of s02).trans (hO3.sub fun b hb => List.mem_append_left _ hb)
      have t03 : TupS H H3 := (TupS.of s02).trans t3
      clear hO3
      cases hw : c.well n false with
      | false =>
        rw [hw] at hM3
        walk_at "go"
        refine ⟨r, P0, t, c, k, nm, m, rfl, hP3, hnm.1, hnm.2, hll, hwl, hst, fun h => by (rw [hsp] at h; cases h), fun pg' hpg' a H4 hs4 ha4 hn4 H5 hO5 => .inr ⟨n, ?_, fun hP5 tt ht5 => ?_⟩⟩
        · rw [hsp] at hpg'
          injection hpg' with e
          rw [← e, hpl, if_neg (by rw [hw]; decide)]
        · rw [hsp] at hpg'
          injection hpg' with e
          rw [← e, hpl, if_neg (by rw [hw]; decide)] at hP5
          have hP4 := hP3.mono hs4
          have hM5 := (hM3.mono hs4).off hO5 hdis (tups_of hP4.there hO5)
          have o5 : Off (M.all d ++ P0.mut) H H5 := (o3.trans (Off.of hs4)).trans (hO5.sub fun b hb => List.mem_append_right _ hb)
          have t5 : TupS H H5 := (t03.trans (TupS.of hs4)).trans (tups_of hP4.there hO5)
          clear hO5
          walk_at "go"
          rename_i tu H6 htu hs6 hn6
          refine x_eqS2 (d := tup2D "failed" (.int n)) (.tup (SqT.of (hs6 _ _ ht5)) (.cons (.str _) (.cons (.int _) .nil))) (.tup (SqT.of hn6) (.cons (.str _) (.cons (.int _) .nil))) (Sh.tup (k := 8) fun x h => ?_) ?_
          · simp only [List.mem_cons, List.not_mem_nil, or_false] at h
            rcases h with rfl | rfl
            · exact Sh.str (by decide +kernel)
            · exact Sh.int
          · exact q H6 _ k es (o5.trans (Off.of hs6)) (hP5.mono hs6) ((hM5.mono hs6).congr said_tick rfl) (g14_fail g hsz hsp s (t5.trans (TupS.of hs6)))
      | true =>
        rw [hw] at hM3
        obtain ⟨⟨n1, n2, n3, n4, n5, n6⟩, ⟨n7, n8, n9, n10, n11⟩, ⟨n12, n13, n14, n15⟩, ⟨n16, n17, n18⟩, ⟨n19, n20⟩, n21⟩ := hM3.ne
        have b0 := hM3.obj
        unfold mineF at b0
        have b1 := hM3.tr
        have b2 := hM3.cl
        have b3 := hM3.fl
        have b4 := hM3.br
        have b5 := hM3.la
        obtain ⟨lvs, b6, b7⟩ := hM3.lg
        have zn : (n : Int) < (k.fil.length : Int) := by omega
        have zl : lvs.length ≤ 100 := by have := b7.1; have := g.len; omega
        have zl2 : lvs.length < sizeLine := Nat.lt_of_le_of_lt zl (by decide)
        walk_at "go"
        rename_i H4 hO4 hI4 tp H5 htp hs5 hn5 H6 hO6 hI6
        rw [Int.toNat_natCast] at hI4
        have nlg : M.lg ≠ tp := by walk_at "nn"
        have f1 : H6 d = some (.dK (mineF M (c.tick n true))) := by unfold mineF; walk_at "hp"
        have f2 : H6 M.tr = some (.lst ((c.tick n true).tried.map V.int)) := by walk_at "hp"
        have f3 : H6 M.cl = some (.lst ((c.tick n true).clr.map V.int)) := by walk_at "hp"
        have f4 : H6 M.fl = some (.lst ((k.fil.set n (k.fil.getD n 0 + 1)).map V.int)) := by
          rw [List.map_set]
          walk_at "hp"
        have f5 : H6 M.br = some (.lst ((c.tick n true).broken.map V.bl)) := by walk_at "hp"
        have f6 : H6 M.la = some (.lst (((c.tick n true).lasts.map lastI).map V.int)) := by walk_at "hp"
        have ftp : H6 tp = some (.tup [.int pg, .int (((lvs.length : Nat) + 1) * 128 + nm), .int m]) := by walk_at "hp"
        have emk : (((lvs.length : Nat) : Int) + 1) * 128 + nm = mk k.stamp nm := by
          unfold mk
          rw [g.stamp, b7.1]
        rw [emk] at ftp
        have hoff : Off (M.all d) H3 H6 := by unfold MF.all; walk_at "off"
        have fk : (k.note pg nm).fil = k.fil.set n (k.fil.getD n 0 + 1) := by rw [note_fil, hP.same.2.2.2, s.dv, Int.toNat_natCast]
        have t36 : TupS H3 H6 := tups_of hM3.there hoff
        have hM6 : MineAt H6 d M (c.tick n true) (k.note pg nm) (es ++ [(pg, mk k.stamp nm, m)]) :=
          ⟨f1, f2, f3, by rw [fk]; exact f4, f5, f6, ⟨lvs ++ [.ref tp], hI6, (b7.mono t36).snoc ⟨tp, rfl, ftp⟩⟩, hM3.nd⟩
        have hP6 := hP3.off hoff hdis' nr nt t36
        have o6 : Off (M.all d ++ P0.mut) H H6 := o3.trans (hoff.sub fun b hb => List.mem_append_left _ hb)
        have t06 := t03.trans t36
        clear hO4 hO6 hoff o3
        refine ⟨r, P0, t, c, k, nm, m, rfl, hP6, hnm.1, hnm.2, hll, hwl, hst, fun h => by (rw [hsp] at h; cases h), fun pg' hpg' a H7 hs7 ha7 hn7 H8 hO8 => .inl ⟨?_, fun hP8 tt ht8 => ?_⟩⟩
        · rw [hsp] at hpg'
          injection hpg' with e
          rw [← e, hpl, if_pos hw]
        · rw [hsp] at hpg'
          injection hpg' with e
          rw [← e, hpl, if_pos hw] at hP8
          rw [← e] at ht8
          have hP7 := hP6.mono hs7
          have t78 := tups_of hP7.there hO8
          have hM8 := (hM6.mono hs7).off hO8 hdis t78
          have o8 : Off (M.all d ++ P0.mut) H H8 := (o6.trans (Off.of hs7)).trans (hO8.sub fun b hb => List.mem_append_right _ hb)
          have t8 : TupS H H8 := (t06.trans (TupS.of hs7)).trans t78
          have ha8 := t78 _ _ hn7
          clear hO8
          refine x_gtup2 (SqT.of ht8) ?_
          dsimp only [List.set]
          walk_at "go"
          refine iteT ?_
          walk_at "go"
          refine x_lsame (o := some pg) ?_
          exact q H8 _ _ _ o8 hP8 (hM8.congr ⟨rfl, rfl, rfl, rfl, rfl, rfl⟩ rfl) (g14_ok g hsz hP.bok ⟨hP.same.2.2.1, hP.same.2.2.2⟩ hsp s t8 ha8)
theorem x_lstep {T : Txt K mg} {H : Hp} {Q : VK} {E : XK} {r d : Addr} {cell : Int} {P0 : PF} {t : Ts} {c : Cs} {k : Bk} {M : MF} {es : List (Int × Int × Int)} {i : Nat} (hP : PlainAt T H r P0 t c k) (hM : MineAt H d M c k es) (hdis : ∀ a ∈ M.all d, a ∉ P0.mut) (nr : r ∉ M.all d) (nt : P0.rt ∉ M.all d) (g : G14 H c k es i) (hi : i < 100)
    (q : ∀ H' c' k' es', Off (M.all d ++ P0.mut) H H' → PlainAt T H' r P0 t c' k' → MineAt H' d M c' k' es' → G14 H' c' k' es' (i + 1) → Q (.bl true) H') : spStep T [.ref r, .ref d, .int cell] H Q E := ⟨r, d, cell, P0, t, c, k, M, es, i, rfl, hP, hM, hdis, nr, nt, g, hi, q⟩
theorem MineAt.fresh {H : Hp} {d : Addr} {M : MF} {c : Cs} {k : Bk} {es : List (Int × Int × Int)} (h : MineAt H d M c k es) {q : Addr} (hq : H q = none) : q ∉ M.all d := fun m => by
  obtain ⟨o, e, _⟩ := h.there q m
  rw [hq] at e
  cases e
/-- a chip that was wiped only -/
structure Wp (c : Cs) (B P0 : Int) (u : Nat) : Prop where
  b : c.b = B
  p : c.p = P0
  mo : c.m = 1000000
  left : c.left = none
  log : c.log.length ≤ u
  tr : ∀ x ∈ c.tried, 0 ≤ x
  clr : ∀ x ∈ c.clr, x ≤ (u : Int)
  st : ∀ x ∈ c.stuff, x = .non
theorem blankN_non {l : List V} {s : Nat} (h : ∀ x ∈ l, x = V.non) : ∀ i, ∀ x ∈ blankN l s i, x = V.non
  | 0 => h
  | i + 1 => fun x hx => by
    rcases List.mem_or_eq_of_mem_set (show x ∈ (blankN l s i).set (s + i) .non from hx) with hx | hx
    · exact blankN_non h i x hx
    · exact hx
theorem Wp.more {c : Cs} {B P0 : Int} {m m' : Nat} (h : Wp c B P0 m) (hm : m ≤ m') : Wp c B P0 m' := ⟨h.b, h.p, h.mo, h.left, by have := h.log; omega, h.tr, fun x hx => by have := h.clr x hx; omega, h.st⟩
theorem getD_le {l : List Int} {u : Int} (hu : 0 ≤ u) (h : ∀ x ∈ l, x ≤ u) (n : Nat) : l.getD n 0 ≤ u := by
  by_cases hn : n < l.length
  · rw [List.getD_eq_getElem?_getD, List.getElem?_eq_getElem hn]
    exact h _ (List.getElem_mem hn)
  · rw [List.getD_eq_getElem?_getD, List.getElem?_eq_none (by omega)]
    exact hu
theorem Wp.dark {c : Cs} {B P0 : Int} {m : Nat} (h : Wp c B P0 m) : c.dark = false := by
  unfold Cs.dark
  rw [h.left]
  rfl
theorem Wp.wipe {c : Cs} {B P0 n : Int} {m : Nat} (h : Wp c B P0 m) (hm : m < 1000) (hn : 0 ≤ n ∧ n < B) : Wp (c.wipeR (some n)).2 B P0 (m + 1) := by
  have e := wipe_place (c := c) (n := n) (by rw [h.b]; exact hn) h.dark
  rw [e]
  have h2 := h.more (Nat.le_succ m)
  split
  · exact h2
  have hl : ∀ w e, (c.said n.toNat w e).log.length ≤ m + 1 := fun w e => by
    show (c.log ++ [_]).length ≤ _
    have := h.log
    rw [List.length_append, List.length_singleton]
    omega
  have hlf : c.left.map (· - 1) = none := by rw [h.left]; rfl
  split
  · refine ⟨h.b, h.p, h.mo, hlf, hl _ _, tick_tried h.tr, fun x hx => ?_, blankN_non h.st _⟩
    rcases List.mem_or_eq_of_mem_set (show x ∈ c.clr.set n.toNat (c.clr.getD n.toNat 0 + 1) from hx) with hx | hx
    · exact h2.clr x hx
    · rw [hx]
      have := getD_le (u := (m : Int)) (by omega) h.clr n.toNat
      omega
  · exact ⟨h.b, h.p, h.mo, hlf, hl _ _, tick_tried h.tr, h2.clr, h.st⟩
theorem Wp.new {B P0 : Int} {l : List V} : Wp (Cs.new B P0 1000000 l) B P0 0 :=
  ⟨rfl, rfl, rfl, rfl, Nat.le_refl _, fun x hx => by rw [List.eq_of_mem_replicate hx]; exact Int.le_refl _, fun x hx => by rw [List.eq_of_mem_replicate hx]; exact Int.le_refl _, fun x hx => List.eq_of_mem_replicate hx⟩
theorem g14_start {H : Hp} {c : Cs} {B P0 : Int} {m : Nat} (h : Wp c B P0 m) (hm : m ≤ 100) (hsz : Sizes c) : G14 H c (Bk.new c.b c.p) [] 0 := by
  have hp := hsz.p
  have fz : ∀ n, (Bk.new c.b c.p).fil.getD n 0 = 0 := fun n => by
    show (List.replicate c.b.toNat (0 : Int)).getD n 0 = 0
    rw [List.getD_eq_getElem?_getD, List.getElem?_replicate]
    split <;> rfl
  refine ⟨h.left, h.tr, by have := h.log; omega, fun n hn => by rw [fz]; omega, fun n j _ _ _ => ?_, fun e he => (by cases he), rfl, Nat.le_refl _, Nat.le_refl _, .inr ?_⟩
  · by_cases hn : n * c.p.toNat + j < c.stuff.length
    · rw [List.getD_eq_getElem?_getD, List.getElem?_eq_getElem hn]
      exact h.st _ (List.getElem_mem hn)
    · rw [List.getD_eq_getElem?_getD, List.getElem?_eq_none (by omega)]
      rfl
  · have := sumN_bound (w := wt c (Bk.new c.b c.p)) (U := 1 + c.p) (B := c.b.toNat) fun n hn => by
      unfold wt
      rw [fz]
      split <;> omega
    have e : ((c.b.toNat : Nat) : Int) * (1 + c.p) = c.b * c.p + c.b := by
      rw [Int.toNat_of_nonneg (by have := hsz.b; omega), Int.mul_add, Int.mul_one, Int.add_comm]
    rw [e] at this
    omega
theorem g14_mono {H H' : Hp} {c : Cs} {k : Bk} {es : List (Int × Int × Int)} {i : Nat} (h : G14 H c k es i) (ht : TupS H H') : G14 H' c k es i :=
  ⟨h.left, h.tr, h.log, h.fil, h.st, fun x hx => by
    obtain ⟨a0, a1, a, a2, a3⟩ := h.all x hx
    exact ⟨a0, a1, a, a2, ht _ _ a3⟩, h.stamp, h.wh, h.len, h.mu⟩
theorem g14_last {H : Hp} {c : Cs} {k : Bk} {es : List (Int × Int × Int)} {i : Nat} (h : G14 H c k es i) (hi : c.b * c.p + c.b < (i : Int)) : spotO c k = none := by
  rcases h.mu with hm | hm
  · exact hm
  · exfalso
    have := sumN_nonneg (w := wt c k) (B := c.b.toNat) fun n hn => by
      unfold wt
      have := h.fil n hn
      split <;> omega
    omega
local macro_rules | `(tactic| walk_at "u") => `(tactic| ((with_reducible refine' x_clearO ?ho ?_); (case ho => walk_at "hp"); intro H1 hO hI; (try dsimp only)))
def spLaw (K : PySem.W.Frag) : Sp := fun vs H Q _ => ∃ (a : Addr) (ns : List Int), vs = [.ref a] ∧ SqL K H a (ns.map V.int) ∧ ns.length ≤ 63 ∧ ∀ H', Q (.bl true) H'
theorem ok_law (T : Txt K mg) : FO P w K mg base 12 T.a_law T.fd_law ["_law_script"] (spLaw K) := by
  have sc := sc_law
  refine T.F_law.okX sc (fun vs H Q E h => ?_) (fun cdv A outer s H vs Q E hr h => ?_)
  · obtain ⟨a, ns, rfl, _⟩ := h
    rfl
  · obtain ⟨a, ns, rfl, hS, hl, q⟩ := h
    refine ⟨_, (pss_cons (ps_set (i := 1) sc.nd rfl (by first | exact Or.inl rfl | exact Or.inr rfl) (pe_op op_uAdd pe_int (pe_op op_mod (pe_callS (ok_cell_at T) (hr.mono (by decide)) (by rfl) T.g__law_cell_at T.k__law_cell_at T.bd__law_cell_at (passAt (takes_of rfl rfl rfl rfl)) (pa_cons (pv 0) (pa_cons pe_int pa_nil))) pe_int)))
      (pss_cons (ps_set (i := 2) sc.nd rfl (by first | exact Or.inl rfl | exact Or.inr rfl) (pe_op op_uAdd pe_int (pe_op op_mod (pe_op op_fdivW (pe_callS (ok_cell_at T) (hr.mono (by decide)) (by rfl) T.g__law_cell_at T.k__law_cell_at T.bd__law_cell_at (passAt (takes_of rfl rfl rfl rfl)) (pa_cons (pv 0) (pa_cons pe_int pa_nil))) pe_int) pe_int)))
      (pss_cons (ps_if (pt_cmpR op_uLt (pe_op op_uMul (pe_op op_sub (pv 1) pe_int) (pv 2)) pe_int (nomark _)) (pss_one (ps_set (i := 2) sc.nd rfl (by first | exact Or.inl rfl | exact Or.inr rfl) (pe_op op_uAdd (pv 2) pe_int))) pss_nil)
      (pss_cons (ps_set (i := 3) sc.nd rfl (by first | exact Or.inl rfl | exact Or.inr rfl) (pe_disp (pps_cons pe_str (pv 1) (pps_cons pe_str (pv 2) (pps_cons pe_str (pe_op op_uMul (pe_lst (pa_cons pe_int pa_nil)) (pv 1)) (pps_cons pe_str (pe_op op_uMul (pe_lst (pa_cons pe_int pa_nil)) (pv 1)) (pps_cons pe_str (pe_op op_uMul (pe_lst (pa_cons pe_int pa_nil)) (pv 1)) pps_nil))))) rfl rfl (fun z => nomatch z) (by decide)))
      (pss_cons (ps_dput (hu_of hr) (pv 3) pe_str (pe_op op_uMul (pe_lst (pa_cons pe_bl pa_nil)) (pv 1)) rfl)
      (pss_cons (ps_dput (hu_of hr) (pv 3) pe_str (pe_op op_uMul (pe_lst (pa_cons (pe_un un_neg pe_int) pa_nil)) (pv 1)) rfl)
      (pss_cons (ps_dput (hu_of hr) (pv 3) pe_str (pe_lst pa_nil) rfl)
      (pss_cons (ps_set (i := 4) sc.nd rfl (by first | exact Or.inl rfl | exact Or.inr rfl) (pe_lst pa_nil))
      (pss_cons (ps_for (passes_of rfl) rfl (pi_range1 (by rfl) T.b_range (pa_cons (pv 1) pa_nil)) (pg_name (i := 5) sc.nd rfl (by first | exact Or.inl rfl | exact Or.inr rfl)) (pss_cons (ps_set (i := 6) sc.nd rfl (by first | exact Or.inl rfl | exact Or.inr rfl) (pe_callS (ok_cell_at T) (hr.mono (by decide)) (by rfl) T.g__law_cell_at T.k__law_cell_at T.bd__law_cell_at (passAt (takes_of rfl rfl rfl rfl)) (pa_cons (pv 0) (pa_cons (pe_op op_uAdd pe_int (pv 5)) pa_nil))))
      (pss_one (ps_if (pt_cmpR (op_uEq hr.units) (pe_op op_mod (pv 6) pe_int) pe_int (nomark _)) (pss_cons (ps_asg (pe_op op_mod (pe_op op_fdivW (pv 6) pe_int) (pe_op op_uAdd (pv 2) pe_int)) (pg_sub (pe_dget (hu_of hr) (pv 3) pe_str (fun _ _ => rfl)) (pv 5) set_list))
      (pss_one (ps_expr (pe_bm PySem.F.plainAttrs_list PySem.F.slot_list_append PySem.F.type_list_append mt_append (pv 4) (pa_cons (pe_tup (pa_cons (pv 5) (pa_cons (pe_ix ix_seq (pe_dget (hu_of hr) (pv 3) pe_str (fun _ _ => rfl)) (pv 5) (fun _ _ => rfl)) pa_nil))) pa_nil))))) pss_nil))))
      (pss_cons (ps_set (i := 7) sc.nd rfl (by first | exact Or.inl rfl | exact Or.inr rfl) (pe_mkS T.mk_Chip (ok_Chip_init T) (hr.mono (by decide)) (by rfl) T.g_Chip T.bd0_Chip_init T.dv0_Chip_init (passAt (takes_of rfl rfl rfl rfl)) (pa_cons (pv 1) (pa_cons (pv 2) (pa_cons pe_int (pa_cons (pv 4) pa_nil))))))
      (pss_cons (ps_for (passes_of rfl) rfl (pi_range1 (by rfl) T.b_range (pa_cons (pv 1) pa_nil)) (pg_name (i := 5) sc.nd rfl (by first | exact Or.inl rfl | exact Or.inr rfl)) (pss_one (ps_for (passes_of rfl) rfl (pi_range1 (by rfl) T.b_range (pa_cons (pe_op op_mod (pe_op op_fdivW (pe_callS (ok_cell_at T) (hr.mono (by decide)) (by rfl) T.g__law_cell_at T.k__law_cell_at T.bd__law_cell_at (passAt (takes_of rfl rfl rfl rfl)) (pa_cons (pv 0) (pa_cons (pe_op op_uAdd pe_int (pv 5)) pa_nil))) pe_int) pe_int) pa_nil)) (pg_name (i := 8) sc.nd rfl (by first | exact Or.inl rfl | exact Or.inr rfl)) (pss_one (ps_if (pt_not (pt_truth (pe_callS (ok_wiped T) (hr.mono (by decide)) (by rfl) T.g__law_wiped T.k__law_wiped T.bd__law_wiped (passAt (takes_of rfl rfl rfl rfl)) (pa_cons (pv 7) (pa_cons (pv 3) (pa_cons (pv 5) pa_nil)))) (by intro _; rfl))) (pss_one (ps_ret pe_bl)) pss_nil)))))
      (pss_cons (ps_set (i := 9) sc.nd rfl (by first | exact Or.inl rfl | exact Or.inr rfl) (pe_op op_mod (pe_callS (ok_cell_at T) (hr.mono (by decide)) (by rfl) T.g__law_cell_at T.k__law_cell_at T.bd__law_cell_at (passAt (takes_of rfl rfl rfl rfl)) (pa_cons (pv 0) (pa_cons pe_int pa_nil))) (pe_op op_sub (pv 1) pe_int)))
      (pss_cons (ps_if (pt_cmpR op_uLt (pe_op op_uMul (pe_op op_sub (pe_op op_sub (pv 1) pe_int) (pv 9)) (pv 2)) pe_int (nomark _)) (pss_one (ps_set (i := 9) sc.nd rfl (by first | exact Or.inl rfl | exact Or.inr rfl) pe_int)) pss_nil)
      (pss_cons (ps_set (i := 10) sc.nd rfl (by first | exact Or.inl rfl | exact Or.inr rfl) (pe_mkS T.mk_Plain (ok_Plain_init T) (hr.mono (by decide)) (by rfl) T.g_Plain T.bd_Plain_init .nil (passAt (takes_of rfl rfl rfl rfl)) (pa_cons (pv 7) (pa_cons (pe_mkS T.mk_Terms (ok_Terms_init T) (hr.mono (by decide)) (by rfl) T.g_Terms T.bd1_Terms_init T.dv1_Terms_init (passAt (takes_of rfl rfl rfl rfl)) (pa_cons (pv 1) (pa_cons (pv 2) (pa_cons pe_int (pa_cons pe_int (pa_cons (pv 9) pa_nil)))))) pa_nil))))
      (pss_cons (ps_for (passes_of rfl) rfl (pi_range1 (by rfl) T.b_range (pa_cons (pe_op op_uAdd (pe_op op_uAdd (pe_op op_uMul (pv 1) (pv 2)) (pv 1)) pe_int) pa_nil)) (pg_name (i := 11) sc.nd rfl (by first | exact Or.inl rfl | exact Or.inr rfl)) (pss_one (ps_if (PW.pt (pw_or (pt_not (pt_truth (pe_callS (ok_asks T) (hr.mono (by decide)) (by rfl) T.g__law_asks T.k__law_asks T.bd__law_asks (passAt (takes_of rfl rfl rfl rfl)) (pa_cons (pv 10) (pa_cons (pv 3) pa_nil))) (by intro _; rfl))) (pw_or1 (pt_not (pt_truth (pe_callS (ok_step T) (hr.mono (by decide)) (by rfl) T.g__law_step T.k__law_step T.bd__law_step (passAt (takes_of rfl rfl rfl rfl)) (pa_cons (pv 10) (pa_cons (pv 3) (pa_cons (pe_callS (ok_cell_at T) (hr.mono (by decide)) (by rfl) T.g__law_cell_at T.k__law_cell_at T.bd__law_cell_at (passAt (takes_of rfl rfl rfl rfl)) (pa_cons (pv 0) (pa_cons (pe_op op_uAdd pe_int (pv 11)) pa_nil))) pa_nil)))) (by intro _; rfl)))))) (pss_one (ps_ret pe_bl)) pss_nil)))
      (pss_cons (ps_for (passes_of rfl) rfl (pi_list (pe_dget (hu_of hr) (pv 3) pe_str (fun _ _ => rfl))) (pg_name (i := 12) sc.nd rfl (by first | exact Or.inl rfl | exact Or.inr rfl)) (pss_one (ps_if (pt_not (pt_truth (pe_callS (ok_lies T) (hr.mono (by decide)) (by rfl) T.g__law_lies T.k__law_lies T.bd__law_lies (passAt (takes_of rfl rfl rfl rfl)) (pa_cons (pv 7) (pa_cons (pv 12) pa_nil))) (by intro _; rfl))) (pss_one (ps_ret pe_bl)) pss_nil)))
      (pss_one (ps_ret (pe_cmpR op_uIs (pe_methD0 (k := 7) (pv 10) (hr.mono (by decide)) (passAt (takes_of rfl rfl rfl rfl))) pe_non (nomark _)))))))))))))))))))), ?_⟩
    walk_at "begin"
    walk_at "go"
    have hB : 2 ≤ 2 + cl ns 0 % 5 ∧ 2 + cl ns 0 % 5 ≤ 6 := by omega
    have hP : 1 ≤ 1 + cl ns 0 / 5 % 4 ∧ 1 + cl ns 0 / 5 % 4 ≤ 4 := by omega
    generalize 2 + cl ns 0 % 5 = B at hB ⊢
    generalize 1 + cl ns 0 / 5 % 4 = p0 at hP ⊢
    refine x_join (fun σ' H' => ∃ P0 : Int, (1 ≤ P0 ∧ P0 ≤ 6) ∧ 3 ≤ (B - 1) * P0 ∧ σ' = [some (.ref a), some (.int B), some (.int P0), none, none, none, none, none, none, none, none, none, none] ∧ H' = H) (fun R hR => ?_) ?_
    · walk_at "go"
      refine x_iteD (fun h => ?_) (fun h => ?_)
      · walk_at "go"
        refine hR _ _ ⟨p0 + 2, by omega, ?_, rfl, rfl⟩
        exact Int.le_trans (by decide) (Int.mul_le_mul (show 1 ≤ B - 1 by omega) (show 3 ≤ p0 + 2 by omega) (by decide) (by omega))
      · walk_at "go"
        exact hR _ _ ⟨p0, by omega, by omega, rfl, rfl⟩
    intro σ' H' ⟨P0, hP0, h3, hσ, hH⟩
    subst hσ hH
    clear hP
    have hB16 : 2 ≤ B ∧ B ≤ 16 := by omega
    have hP16 : 1 ≤ P0 ∧ P0 ≤ 16 := by omega
    walk_at "go"
    rename_i d0 G0 hd0 sd0 nd0 l1 G1 hl1 sl1 nl1 y1 G2 hy1 sy1 ny1 l2 G3 hl2 sl2 nl2 y2 G4 hy2 sy2 ny2 l3 G5 hl3 sl3 nl3 y3 G6 hy3 sy3 ny3
    refine x_dspK (kvs' := [(.inr "blocks", .int B), (.inr "pages", .int P0), (.inr "tried", .ref y1), (.inr "cleared", .ref y2), (.inr "filled", .ref y3)]) [(.inr "blocks", .int B), (.inr "pages", .int P0), (.inr "tried", .ref y1), (.inr "cleared", .ref y2), (.inr "filled", .ref y3)] (by walk_at "hp") rfl (Nat.le_of_ble_eq_true rfl) rfl (fun H6 hO6 hI6 => ?_)
    walk_at "go"
    rename_i w1 G7 hw1 sw1 nw1 w2 G8 hw2 sw2 nw2
    refine x_dpS (kvs' := [(.inr "blocks", .int B), (.inr "pages", .int P0), (.inr "tried", .ref y1), (.inr "cleared", .ref y2), (.inr "filled", .ref y3), (.inr "broken", .ref w2)]) (by walk_at "hp") rfl (fun H7 hO7 hI7 => ?_) (Nat.le_of_ble_eq_true rfl)
    dsimp only
    walk_at "go"
    rename_i u1 G9 hu1 su1 nu1 u2 G10 hu2 su2 nu2
    refine x_dpS (kvs' := [(.inr "blocks", .int B), (.inr "pages", .int P0), (.inr "tried", .ref y1), (.inr "cleared", .ref y2), (.inr "filled", .ref y3), (.inr "broken", .ref w2), (.inr "lasts", .ref u2)]) (by walk_at "hp") rfl (fun H8 hO8 hI8 => ?_) (Nat.le_of_ble_eq_true rfl)
    dsimp only
    walk_at "go"
    rename_i lg G11 hlg slg nlg
    refine x_dpS (kvs' := mineF ⟨y1, y2, y3, w2, u2, lg⟩ (Cs.new B P0 1000000 (lastsI B []))) (by walk_at "hp") rfl (fun H9 hO9 hI9 => ?_) (Nat.le_of_ble_eq_true rfl)
    dsimp only
    walk_at "go"
    rename_i qi H10 hqi sqi nqi
    have c1 : d0 ≠ y1 := by walk_at "nn"
    have c2 : d0 ≠ y2 := by walk_at "nn"
    have c3 : d0 ≠ y3 := by walk_at "nn"
    have c4 : d0 ≠ w2 := by walk_at "nn"
    have c5 : d0 ≠ u2 := by walk_at "nn"
    have c6 : d0 ≠ lg := by walk_at "nn"
    have c7 : y1 ≠ y2 := by walk_at "nn"
    have c8 : y1 ≠ y3 := by walk_at "nn"
    have c9 : y1 ≠ w2 := by walk_at "nn"
    have c10 : y1 ≠ u2 := by walk_at "nn"
    have c11 : y1 ≠ lg := by walk_at "nn"
    have c12 : y2 ≠ y3 := by walk_at "nn"
    have c13 : y2 ≠ w2 := by walk_at "nn"
    have c14 : y2 ≠ u2 := by walk_at "nn"
    have c15 : y2 ≠ lg := by walk_at "nn"
    have c16 : y3 ≠ w2 := by walk_at "nn"
    have c17 : y3 ≠ u2 := by walk_at "nn"
    have c18 : y3 ≠ lg := by walk_at "nn"
    have c19 : w2 ≠ u2 := by walk_at "nn"
    have c20 : w2 ≠ lg := by walk_at "nn"
    have c21 : u2 ≠ lg := by walk_at "nn"
    have f1 : H9 y1 = some (.lst (List.replicate B.toNat (.int 0))) := by walk_at "hp"
    have f2 : H9 y2 = some (.lst (List.replicate B.toNat (.int 0))) := by walk_at "hp"
    have f3 : H9 y3 = some (.lst (List.replicate B.toNat (.int 0))) := by walk_at "hp"
    have f4 : H9 w2 = some (.lst (List.replicate B.toNat (.bl false))) := by walk_at "hp"
    have f5 : H9 u2 = some (.lst (List.replicate B.toNat (.int (-1)))) := by walk_at "hp"
    have f6 : H9 lg = some (.lst []) := by walk_at "hp"
    have hM9 : MineAt H9 d0 ⟨y1, y2, y3, w2, u2, lg⟩ (Cs.new B P0 1000000 (lastsI B [])) (Bk.new B P0) [] := by
      refine ⟨hI9, ?_, ?_, ?_, ?_, ?_, ⟨[], f6, rfl, fun i v e h => by simp at h⟩, ?_⟩
      · show H9 y1 = some (.lst ((List.replicate _ _).map V.int))
        rw [List.map_replicate]; exact f1
      · show H9 y2 = some (.lst ((List.replicate _ _).map V.int))
        rw [List.map_replicate]; exact f2
      · show H9 y3 = some (.lst ((List.replicate _ _).map V.int))
        rw [List.map_replicate]; exact f3
      · show H9 w2 = some (.lst ((List.replicate _ _).map V.bl))
        rw [List.map_replicate]; exact f4
      · show H9 u2 = some (.lst (((List.replicate B.toNat V.non).map lastI).map V.int))
        rw [List.map_replicate, List.map_replicate]
        exact f5
      · unfold MF.all
        simp only [List.nodup_cons, List.mem_cons, List.not_mem_nil, or_false, not_or, not_false_eq_true, List.nodup_nil, and_true]
        exact ⟨⟨c1, c2, c3, c4, c5, c6⟩, ⟨c7, c8, c9, c10, c11⟩, ⟨c12, c13, c14, c15⟩, ⟨c16, c17, c18⟩, ⟨c19, c20⟩, c21⟩
    have sG2 : Same H' G2 := (sd0.trans sl1).trans sy1
    have sG4 : Same H' G4 := (sG2.trans sl2).trans sy2
    have sG6 : Same H' G6 := (sG4.trans sl3).trans sy3
    have sH6 : Same H' H6 := Off.same1 sG6 hO6 hd0
    have sG8 : Same H' G8 := (sH6.trans sw1).trans sw2
    have sH7 : Same H' H7 := Off.same1 sG8 hO7 hd0
    have sG10 : Same H' G10 := (sH7.trans su1).trans su2
    have sH8 : Same H' H8 := Off.same1 sG10 hO8 hd0
    have sG11 : Same H' G11 := sH8.trans slg
    have sH9 : Same H' H9 := Off.same1 sG11 hO9 hd0
    have nqi0 : H' qi = none := same_none sH9 hqi
    have kqi := hM9.fresh hqi
    have hM10 := hM9.mono sqi
    have s10 : Same H' H10 := sH9.trans sqi
    have nM : ∀ b ∈ MF.all ⟨y1, y2, y3, w2, u2, lg⟩ d0, H' b = none := fun b hb => by
      unfold MF.all at hb
      simp only [List.mem_cons, List.not_mem_nil, or_false] at hb
      rcases hb with rfl | rfl | rfl | rfl | rfl | rfl | rfl
      · exact hd0
      · exact same_none (sd0.trans sl1) hy1
      · exact same_none (sG2.trans sl2) hy2
      · exact same_none (sG4.trans sl3) hy3
      · exact same_none (sH6.trans sw1) hw2
      · exact same_none (sH7.trans su1) hu2
      · exact same_none sH8 hlg
    obtain ⟨M, hMd⟩ : ∃ M : MF, M = ⟨y1, y2, y3, w2, u2, lg⟩ := ⟨_, rfl⟩
    rw [← hMd] at hM10 kqi nM
    clear hO6 hO7 hO8 hO9 hM9 f1 f2 f3 f4 f5 f6 c1 c2 c3 c4 c5 c6 c7 c8 c9 c10 c11 c12 c13 c14 c15 c16 c17 c18 c19 c20 c21
    clear sG2 sG4 sG6 sH6 sG8 sH7 sG10 sH8 sG11 sH9 sqi sd0 sl1 sy1 sl2 sy2 sl3 sy3 sw1 sw2 su1 su2 slg
    clear nd0 nl1 ny1 nl2 ny2 nl3 ny3 nw1 nw2 nu1 nu2 nlg hI6 hI7 hI8 hI9 hMd
    refine x_seq ?_
    walk_at "go"
    refine x_frR1 (by omega) (fun i σ H1 => ∃ (v5 v6 : Option V) (ws : List V) (is : List (Int × Int)), σ = [some (.ref a), some (.int B), some (.int P0), some (.ref d0), some (.ref qi), v5, v6, none, none, none, none, none, none] ∧ Same H' H1 ∧ MineAt H1 d0 M (Cs.new B P0 1000000 (lastsI B is)) (Bk.new B P0) [] ∧ H1 qi = some (.lst ws) ∧ PairL H1 ws is ∧ is.length ≤ i ∧ (∀ e ∈ is, 0 ≤ e.1 ∧ e.1 < (i : Int) ∧ 0 ≤ e.2 ∧ e.2 ≤ 1000000) ∧ is.Pairwise (fun a b => a.1 ≠ b.1))
      ⟨_, _, [], [], rfl, s10, hM10, nqi, PairL.nil, Nat.le_refl _, fun e he => by (cases he), .nil⟩ ?_ ?_
    · intro i σ H1 hi ⟨v5, v6, ws, is, hσ, sH1, hM1, hq1, hpl, hil, hie, hpw⟩
      subst hσ
      have kd : qi ≠ M.la := fun z => kqi (by rw [z]; unfold MF.all; simp)
      have dl : d0 ≠ M.la := hM1.ne.1.2.2.2.2.1
      have ho1 := hM1.obj
      unfold mineF at ho1
      have hla := hM1.la
      have hlen : ((((Cs.new B P0 1000000 (lastsI B is)).lasts.map lastI).map V.int).length : Int) = B := by
        show (((((lastsI B is)).map lastI).map V.int).length : Int) = B
        rw [List.length_map, List.length_map, lastsI_len]
        omega
      have hlt : 0 + (i : Int) < ((((Cs.new B P0 1000000 (lastsI B is)).lasts.map lastI).map V.int).length : Int) := by omega
      have hwl : ws.length < sizeLine := Nat.lt_of_le_of_lt (show ws.length ≤ 1000 by rw [hpl.1]; omega) (by decide)
      walk_at "go"
      generalize cl ns (1 + (0 + (i : Int))) = w0
      refine x_iteD (fun _ => ?_) (fun _ => ?_)
      · refine x_join (fun σ' H2 => ∃ v : Int, 0 ≤ v ∧ v ≤ 1000000 ∧ σ' = [some (.ref a), some (.int B), some (.int P0), some (.ref d0), some (.ref qi), some (.int (0 + (i : Int))), some (.int w0), none, none, none, none, none, none] ∧ Off [M.la] H1 H2 ∧ H2 M.la = some (.lst (((lastsI B (is ++ [((i : Int), v)])).map lastI).map V.int))) (fun R hR => ?_) ?_
        · have hv : 0 ≤ w0 / 3 % (P0 + 4) ∧ w0 / 3 % (P0 + 4) ≤ 1000000 := by
            have h1 := Int.emod_nonneg (w0 / 3) (show P0 + 4 ≠ 0 by omega)
            have h2 := Int.emod_lt_of_pos (w0 / 3) (show 0 < P0 + 4 by omega)
            omega
          walk_at "go"
          rename_i H2 hO2 hI2
          refine hR _ _ ⟨_, hv.1, hv.2, rfl, hO2, ?_⟩
          rw [lastsI_snoc, List.map_set, List.map_set]
          rw [show (0 + (i : Int)).toNat = ((i : Int), w0 / 3 % (P0 + 4)).1.toNat by show (0 + (i : Int)).toNat = (i : Int).toNat; omega] at hI2
          exact hI2
        intro σ' H2 ⟨v, hv0, hv1, hσ, hO2, hI2⟩
        subst hσ
        have hq2 := hO2.at hq1 (nin_of kd)
        have ho2 := hO2.at ho1 (nin_of dl)
        have t12 : TupS H1 H2 := hO2.tupsL hla
        have hM1' := hM1
        have sH2 : Same H' H2 := Off.same1 sH1 hO2 (nM _ (by unfold MF.all; simp))
        have hlt2 : 0 + (i : Int) < (((lastsI B (is ++ [((i : Int), v)])).map lastI).length : Int) := by
          rw [List.length_map, lastsI_len]
          omega
        have ev : ((lastsI B (is ++ [((i : Int), v)])).map lastI).getD (0 + (i : Int)).toNat 0 = v := by
          have hlx : i < (lastsI B is).length := by rw [lastsI_len]; omega
          rw [lastsI_snoc, List.map_set, show (0 + (i : Int)).toNat = i by omega]
          show (((lastsI B is).map lastI).set (i : Int).toNat v).getD i 0 = v
          rw [Int.toNat_natCast, getD_set (by rw [List.length_map]; exact hlx), if_pos rfl]
        have hM2 : MineAt H2 d0 M (Cs.new B P0 1000000 (lastsI B (is ++ [((i : Int), v)]))) (Bk.new B P0) [] := by
          obtain ⟨⟨n1, n2, n3, n4, n5, n6⟩, ⟨n7, n8, n9, n10, n11⟩, ⟨n12, n13, n14, n15⟩, ⟨n16, n17, n18⟩, ⟨n19, n20⟩, n21⟩ := hM1.ne
          obtain ⟨lvs, g1, g2⟩ := hM1.lg
          exact ⟨hO2.at hM1.obj (nin_of n5), hO2.at hM1.tr (nin_of n10), hO2.at hM1.cl (nin_of n14), hO2.at hM1.fl (nin_of n17), hO2.at hM1.br (nin_of n19), hI2, ⟨lvs, hO2.at g1 (nin_of n21.symm), g2.mono t12⟩, hM1.nd⟩
        clear hO2
        walk_at "go"
        rename_i tp H3 htp hs3 hn3 H4 hO4 hI4
        have kq3 : qi ∉ M.all d0 := kqi
        have sH4 : Same H' H4 := Off.same1 (sH2.trans hs3) hO4 nqi0
        have t34 : TupS H3 H4 := hO4.tupsL (hs3 _ _ hq2)
        have htp4 := t34 _ _ hn3
        rw [ev, Int.zero_add] at htp4
        refine ⟨_, _, ws ++ [.ref tp], is ++ [((i : Int), v)], rfl, sH4, (hM2.mono hs3).off hO4 (fun b hb => nin_of (fun z => kqi (z ▸ hb))) t34, hI4, (hpl.mono ((t12.trans (TupS.of hs3)).trans t34)).snoc ⟨tp, rfl, htp4⟩, by rw [List.length_append, List.length_singleton]; omega, fun e he => ?_, ?_⟩
        · rcases List.mem_append.mp he with he | he
          · have := hie e he
            omega
          · rw [List.mem_singleton.mp he]
            exact ⟨Int.natCast_nonneg _, by show (i : Int) < ((i + 1 : Nat) : Int); omega, hv0, hv1⟩
        · rw [List.pairwise_append]
          refine ⟨hpw, List.pairwise_singleton _ _, fun x hx y hy => ?_⟩
          rw [List.mem_singleton.mp hy]
          have := hie x hx
          show x.1 ≠ (i : Int)
          omega
      · walk_at "go"
        exact ⟨_, _, ws, is, rfl, sH1, hM1, hq1, hpl, Nat.le_succ_of_le hil, fun e he => by
          have := hie e he
          omega, hpw⟩
    · intro σ H1 ⟨v5, v6, ws, is, hσ, sH1, hM1, hq1, hpl, hil, hie, hpw⟩
      subst hσ
      dsimp only
      walk_at "go"
      rename_i x dx Hm hx hdx hne hsm hnm hdd
      refine x_cinitI hB16 hP16 ⟨by decide, by decide⟩ hx hsm hnm ((hpl.mono (TupS.of hsm)).ills (.inl (hsm _ _ hq1))) ⟨fun e he => by
        have := hie e he
        omega, hpw⟩ fun F H2 hs2 hF hC => ⟨rfl, ?_⟩
      have hdis : ∀ b ∈ M.all d0, b ∉ F.all x := fun b hb hf => hM1.fresh (hF b hf) hb
      have nF : ∀ b ∈ F.all x, H' b = none := fun b hb => same_none sH1 (hF b hb)
      have s02 := sH1.trans hs2
      have hM2 := hM1.mono hs2
      clear hsm hnm hdd hne hdx hs2
      walk_at "go"
      refine x_seq ?_
      walk_at "go"
      refine x_frR1 (by omega) (fun i σ H3 => ∃ (v5 v8 : Option V) (c : Cs), σ = [some (.ref a), some (.int B), some (.int P0), some (.ref d0), some (.ref qi), v5, v6, some (.ref x), v8, none, none, none, none] ∧ Same H' H3 ∧ Wp c B P0 (3 * i) ∧ ChipAt T.C_Chip H3 x F c ∧ MineAt H3 d0 M c (Bk.new B P0) [])
        ⟨_, _, _, rfl, s02, Wp.new, hC, hM2⟩ ?_ ?_
      · intro i σ H3 hi ⟨v5, v8, c, hσ, sH3, wp, hC3, hM3⟩
        subst hσ
        walk_at "go"
        have hw : 0 ≤ cl ns (1 + (0 + (i : Int))) / 24 % 4 ∧ cl ns (1 + (0 + (i : Int))) / 24 % 4 ≤ 3 := by omega
        generalize cl ns (1 + (0 + (i : Int))) / 24 % 4 = w0 at hw ⊢
        refine x_frR1 (by omega) (fun j σ H4 => ∃ (v8 : Option V) (c : Cs), σ = [some (.ref a), some (.int B), some (.int P0), some (.ref d0), some (.ref qi), some (.int (0 + (i : Int))), v6, some (.ref x), v8, none, none, none, none] ∧ Same H' H4 ∧ Wp c B P0 (3 * i + j) ∧ ChipAt T.C_Chip H4 x F c ∧ MineAt H4 d0 M c (Bk.new B P0) [])
          ⟨_, _, rfl, sH3, wp, hC3, hM3⟩ ?_ ?_
        · intro j σ H4 hj ⟨v8, c, hσ, sH4, wp, hC4, hM4⟩
          subst hσ
          walk_at "go"
          refine ⟨x, d0, F, M, c, _, _, 0 + (i : Int), rfl, hM4, hC4, hdis, wp.dark, ?_, by omega, by rw [wp.b]; omega, by have := wp.log; omega, wp.tr, fun H5 hO5 hC5 hM5 => ?_⟩
          · rw [wp.mo]
            have := getD_le (u := ((3 * i + j : Nat) : Int)) (by omega) wp.clr (0 + (i : Int)).toNat
            omega
          · have sH5 := Off.same sH4 hO5 (fun b hb => by
              rcases List.mem_append.mp hb with hb | hb
              · exact nM b hb
              · exact nF b hb)
            clear hO5
            walk_at "go"
            exact ⟨_, _, rfl, sH5, wp.wipe (by omega) (by omega), hC5, hM5⟩
        · intro σ H4 ⟨v8, c, hσ, sH4, wp, hC4, hM4⟩
          exact ⟨_, _, c, hσ, sH4, wp.more (by omega), hC4, hM4⟩
      · intro σ H3 ⟨v5, v8, c, hσ, sH3, wp, hC3, hM3⟩
        subst hσ
        dsimp only
        walk_at "go"
        have hil0 : 0 ≤ cl ns 7 % (B - 1) ∧ cl ns 7 % (B - 1) ≤ B - 2 := by
          have h1 := Int.emod_nonneg (cl ns 7) (show B - 1 ≠ 0 by omega)
          have h2 := Int.emod_lt_of_pos (cl ns 7) (show 0 < B - 1 by omega)
          omega
        generalize cl ns 7 % (B - 1) = il0 at hil0 ⊢
        refine x_join (fun σ' H4 => ∃ il : Int, (0 ≤ il ∧ il ≤ B - 2) ∧ 3 ≤ (B - 1 - il) * P0 ∧ σ' = [some (.ref a), some (.int B), some (.int P0), some (.ref d0), some (.ref qi), v5, v6, some (.ref x), v8, some (.int il), none, none, none] ∧ H4 = H3) (fun R hR => ?_) ?_
        · have hs0 : (B - 1 - il0).natAbs < 2 ^ 250 ∧ P0.natAbs < 2 ^ 250 := ⟨by omega, by omega⟩
          walk_at "go"
          refine x_iteD (fun h => ?_) (fun h => ?_)
          · walk_at "go"
            refine hR _ _ ⟨0, by omega, ?_, rfl, rfl⟩
            rw [Int.sub_zero]
            exact h3
          · walk_at "go"
            exact hR _ _ ⟨il0, hil0, by omega, rfl, rfl⟩
        intro σ' H4 ⟨il, hil, h3', hσ, hH⟩
        subst hσ hH
        walk_at "go"
        rename_i xt dxt Ht hxt hdxt hnet hst hnt hddt
        refine ⟨xt, dxt, _, _, _, _, _, _, some B, some P0, some 64, some 1, some il, some 1000000, rfl, hnt, .int B, .int P0, .int 64, .int 1, .int il, .int 1000000, .inl ⟨?_, fun H5 hO5 hT => ⟨rfl, ?_⟩⟩⟩
        · show (decide (2 ≤ B ∧ B ≤ 16) && decide (1 ≤ P0 ∧ P0 ≤ 16) && decide (1 ≤ (64 : Int) ∧ (64 : Int) ≤ 64) && decide (0 ≤ il ∧ il ≤ B - 2) && decide (1 ≤ (1000000 : Int) ∧ (1000000 : Int) ≤ 1000000) && decide (1 ≤ (1 : Int) ∧ (1 : Int) ≤ (B - 1 - il) * P0 - 2)) = true
          rw [decide_eq_true hB16, decide_eq_true hP16, decide_eq_true hil, decide_eq_true (show 1 ≤ (1 : Int) ∧ (1 : Int) ≤ (B - 1 - il) * P0 - 2 by omega)]
          rfl
        obtain ⟨dt, hT⟩ := hT
        have hT' : H5 xt = some (.ins T.C_Terms dt (termF ⟨B, P0, 64, 1, il, 1000000⟩)) := hT
        have s45 : Same _ H5 := Off.same1 hst hO5 hxt
        have kxt := hC3.fresh hxt
        have kxt2 := hM3.fresh hxt
        have nxt : H' xt = none := same_none sH3 hxt
        have sH5 := sH3.trans s45
        have hC5 := hC3.mono s45
        have hM5 := hM3.mono s45
        clear hO5 hst hnt hddt hnet hdxt hT
        walk_at "go"
        rename_i xs dxs Hs hxs hdxs hnes hss hns hdds
        have hTs := hss _ _ hT'
        refine ⟨xs, dxs, x, F, xt, dt, ⟨B, P0, 64, 1, il, 1000000⟩, c, rfl, hns, hC5.mono hss, hTs, wp.b.symm, wp.p.symm, hC5.fresh hxs, (ne_of_none hT' hxs).symm, kxt, fun rb fb H6 hO6 hF6 hP6 => ⟨rfl, ?_⟩⟩
        have s56 : Same H5 H6 := Off.same1 hss hO6 hxs
        have sH6 := sH5.trans s56
        have hM6 := hM5.mono s56
        have kxs := hM5.fresh hxs
        obtain ⟨PP, hPP⟩ : ∃ PP : PF, PP = ⟨dxs, x, F, xt, dt, rb, fb⟩ := ⟨_, rfl⟩
        have erc : PP.rc = x := by rw [hPP]
        have hdisP : ∀ b ∈ M.all d0, b ∉ PP.mut := fun b hb hf => by
          rw [hPP] at hf
          rcases List.mem_append.mp hf with hf | hf
          · exact hdis b hb hf
          · exact (hM5.mono hss).fresh (hF6 b hf) hb
        have nP : ∀ b ∈ PP.mut, H' b = none := fun b hf => by
          rw [hPP] at hf
          rcases List.mem_append.mp hf with hf | hf
          · exact nF b hf
          · exact same_none (sH5.trans hss) (hF6 b hf)
        have kt : PP.rt ∉ M.all d0 := by rw [hPP]; exact kxt2
        have g0 : G14 H6 c (Bk.new c.b c.p) [] 0 := g14_start wp (by omega) hC5.sz
        rw [← hPP] at hP6
        rw [wp.b, wp.p] at hP6 g0
        have hBP : 0 ≤ B * P0 ∧ B * P0 ≤ 36 := ⟨Int.mul_nonneg (by omega) (by omega), Int.mul_le_mul hB.2 hP0.2 (by omega) (by decide)⟩
        have hs0 : B.natAbs < 2 ^ 250 ∧ P0.natAbs < 2 ^ 250 := ⟨by omega, by omega⟩
        clear hO6 hss hns hdds hnes hdxs hPP hTs hT' s45 s56 hM5 hC5 hM3 hC3
        walk_at "go"
        refine x_seq ?_
        walk_at "go"
        refine x_frR1 (by omega) (fun i σ H7 => ∃ (v11 : Option V) (c : Cs) (k : Bk) (es : List (Int × Int × Int)), σ = [some (.ref a), some (.int B), some (.int P0), some (.ref d0), some (.ref qi), v5, v6, some (.ref x), v8, some (.int il), some (.ref xs), v11, none] ∧ Same H' H7 ∧ PlainAt T H7 xs PP ⟨B, P0, 64, 1, il, 1000000⟩ c k ∧ MineAt H7 d0 M c k es ∧ G14 H7 c k es i)
          ⟨_, _, _, _, rfl, sH6, hP6, hM6, g0⟩ ?_ ?_
        · intro i σ H7 hi ⟨v11, c, k, es, hσ, sH7, hP7, hM7, g⟩
          subst hσ
          walk_at "go"
          refine ⟨xs, d0, PP, _, c, k, M, es, rfl, hP7, hM7, fun H8 hs8 => ?_⟩
          have sH8 := sH7.trans hs8
          walk_at "go"
          refine x_lstep (hP7.mono hs8) (hM7.mono hs8) hdisP kxs kt (g14_mono g (TupS.of hs8)) (by omega) fun H9 c' k' es' hO9 hP9 hM9 g9 => ?_
          have sH9 := Off.same sH8 hO9 (fun b hb => by
            rcases List.mem_append.mp hb with hb | hb
            · exact nM b hb
            · exact nP b hb)
          clear hO9
          walk_at "go"
          exact ⟨_, c', k', es', rfl, sH9, hP9, hM9, g9⟩
        · intro σ H7 ⟨v11, c, k, es, hσ, sH7, hP7, hM7, g⟩
          subst hσ
          have hsm := hP7.same
          have hlast : spotO c k = none := g14_last g (by
            rw [← hsm.1, ← hsm.2.1]
            show B * P0 + B < _
            omega)
          have hdk : c.dark = false := by unfold Cs.dark; rw [g.left]; rfl
          have ho7 := hM7.obj
          unfold mineF at ho7
          obtain ⟨lvs, hlg7, hpl7⟩ := hM7.lg
          have hC7 := hP7.chip
          rw [erc] at hC7
          dsimp only
          refine x_seq ?_
          walk_at "go"
          refine x_frL (SqL.of hlg7) (fun i σ H8 => H8 = H7 ∧ ∃ (v12 : Option V), σ = [some (.ref a), some (.int B), some (.int P0), some (.ref d0), some (.ref qi), v5, v6, some (.ref x), v8, some (.int il), some (.ref xs), v11, v12]) ⟨rfl, _, rfl⟩ (fun i σ H8 _ h => by rw [h.1]; exact SqL.of hlg7) ?_ ?_
          · intro i y σ H8 hy ⟨hH, v12, hσ⟩
            subst hσ hH
            have hil := (List.getElem?_eq_some_iff.mp hy).1
            obtain ⟨e, he⟩ : ∃ e, es[i]? = some e := ⟨_, List.getElem?_eq_getElem (by have := hpl7.1; omega)⟩
            obtain ⟨ta, rfl, hta⟩ := hpl7.2 i y e hy he
            obtain ⟨a0, a1, b, a2, a3⟩ := g.all e (List.mem_of_getElem? he)
            walk_at "go"
            refine ⟨x, ta, b, PP.fc, c, e.1, e.2.1, e.2.2, rfl, hC7, hdk, a0, a1, hta, a2, a3, ?_⟩
            walk_at "go"
            exact ⟨rfl, _, rfl⟩
          · intro σ H8 ⟨hH, v12, hσ⟩
            subst hσ hH
            walk_at "go"
            refine x_mPSpot hP7 fun H9 hs9 => ?_
            rw [hlast]
            walk_at "go"
            rw [decide_eq_true (show iV none = V.non from rfl)]
            exact q H9
end

theorem all_mk {l : PySem.W.OpenLaw} {w : World} {K : PySem.W.Frag} {h : Heap} {mg : Str → Option Value} {fa : Addr} (X : K.In h) (G : h.Ns mainGlobals mg) (hfa : mg "law" = some (.ref fa))
    {f_mark_of : Addr} {od_mark_of an_mark_of : Option Addr} {sl_mark_of : Array (Option Value)} {oc_mark_of kV_mark_of dc_mark_of pm_mark_of cd_mark_of ct_mark_of : Value}
    {f_Book_init : Addr} {od_Book_init an_Book_init : Option Addr} {sl_Book_init : Array (Option Value)} {oc_Book_init kV_Book_init dc_Book_init pm_Book_init cd_Book_init ct_Book_init : Value}
    {f_Book_mark : Addr} {od_Book_mark an_Book_mark : Option Addr} {sl_Book_mark : Array (Option Value)} {oc_Book_mark kV_Book_mark dc_Book_mark pm_Book_mark cd_Book_mark ct_Book_mark : Value}
    {f_Book_note : Addr} {od_Book_note an_Book_note : Option Addr} {sl_Book_note : Array (Option Value)} {oc_Book_note kV_Book_note dc_Book_note pm_Book_note cd_Book_note ct_Book_note : Value}
    {f_Book_forget : Addr} {od_Book_forget an_Book_forget : Option Addr} {sl_Book_forget : Array (Option Value)} {oc_Book_forget kV_Book_forget dc_Book_forget pm_Book_forget cd_Book_forget ct_Book_forget : Value}
    {f_Book_held : Addr} {od_Book_held an_Book_held : Option Addr} {sl_Book_held : Array (Option Value)} {oc_Book_held kV_Book_held dc_Book_held pm_Book_held cd_Book_held ct_Book_held : Value}
    {f_Book_tell : Addr} {od_Book_tell an_Book_tell : Option Addr} {sl_Book_tell : Array (Option Value)} {oc_Book_tell kV_Book_tell dc_Book_tell pm_Book_tell cd_Book_tell ct_Book_tell : Value}
    {f_BlockFailed_init : Addr} {od_BlockFailed_init an_BlockFailed_init : Option Addr} {sl_BlockFailed_init : Array (Option Value)} {oc_BlockFailed_init kV_BlockFailed_init dc_BlockFailed_init pm_BlockFailed_init cd_BlockFailed_init ct_BlockFailed_init : Value}
    {f_NotClear_init : Addr} {od_NotClear_init an_NotClear_init : Option Addr} {sl_NotClear_init : Array (Option Value)} {oc_NotClear_init kV_NotClear_init dc_NotClear_init pm_NotClear_init cd_NotClear_init ct_NotClear_init : Value}
    {f_is_whole : Addr} {od_is_whole an_is_whole : Option Addr} {sl_is_whole : Array (Option Value)} {oc_is_whole kV_is_whole dc_is_whole pm_is_whole cd_is_whole ct_is_whole : Value}
    {f_is_within : Addr} {od_is_within an_is_within : Option Addr} {sl_is_within : Array (Option Value)} {oc_is_within kV_is_within dc_is_within pm_is_within cd_is_within ct_is_within : Value}
    {f_Plain_init : Addr} {od_Plain_init an_Plain_init : Option Addr} {sl_Plain_init : Array (Option Value)} {oc_Plain_init kV_Plain_init dc_Plain_init pm_Plain_init cd_Plain_init ct_Plain_init : Value}
    {f_Plain_good : Addr} {od_Plain_good an_Plain_good : Option Addr} {sl_Plain_good : Array (Option Value)} {oc_Plain_good kV_Plain_good dc_Plain_good pm_Plain_good cd_Plain_good ct_Plain_good : Value}
    {f_Plain_free : Addr} {od_Plain_free an_Plain_free : Option Addr} {sl_Plain_free : Array (Option Value)} {oc_Plain_free kV_Plain_free dc_Plain_free pm_Plain_free cd_Plain_free ct_Plain_free : Value}
    {f_Plain_part : Addr} {od_Plain_part an_Plain_part : Option Addr} {sl_Plain_part : Array (Option Value)} {oc_Plain_part kV_Plain_part dc_Plain_part pm_Plain_part cd_Plain_part ct_Plain_part : Value}
    {f_Plain_spot : Addr} {od_Plain_spot an_Plain_spot : Option Addr} {sl_Plain_spot : Array (Option Value)} {oc_Plain_spot kV_Plain_spot dc_Plain_spot pm_Plain_spot cd_Plain_spot ct_Plain_spot : Value}
    {f_Plain_reserve : Addr} {od_Plain_reserve an_Plain_reserve : Option Addr} {sl_Plain_reserve : Array (Option Value)} {oc_Plain_reserve kV_Plain_reserve dc_Plain_reserve pm_Plain_reserve cd_Plain_reserve ct_Plain_reserve : Value}
    {f_Plain_ready : Addr} {od_Plain_ready an_Plain_ready : Option Addr} {sl_Plain_ready : Array (Option Value)} {oc_Plain_ready kV_Plain_ready dc_Plain_ready pm_Plain_ready cd_Plain_ready ct_Plain_ready : Value}
    {f_Plain_make_ready : Addr} {od_Plain_make_ready an_Plain_make_ready : Option Addr} {sl_Plain_make_ready : Array (Option Value)} {oc_Plain_make_ready kV_Plain_make_ready dc_Plain_make_ready pm_Plain_make_ready cd_Plain_make_ready ct_Plain_make_ready : Value}
    {f_Plain_set_down : Addr} {od_Plain_set_down an_Plain_set_down : Option Addr} {sl_Plain_set_down : Array (Option Value)} {oc_Plain_set_down kV_Plain_set_down dc_Plain_set_down pm_Plain_set_down cd_Plain_set_down ct_Plain_set_down : Value}
    {f_Plain_lay : Addr} {od_Plain_lay an_Plain_lay : Option Addr} {sl_Plain_lay : Array (Option Value)} {oc_Plain_lay kV_Plain_lay dc_Plain_lay pm_Plain_lay cd_Plain_lay ct_Plain_lay : Value}
    {f_Plain_need_sheet : Addr} {od_Plain_need_sheet an_Plain_need_sheet : Option Addr} {sl_Plain_need_sheet : Array (Option Value)} {oc_Plain_need_sheet kV_Plain_need_sheet dc_Plain_need_sheet pm_Plain_need_sheet cd_Plain_need_sheet ct_Plain_need_sheet : Value}
    {f_Plain_write : Addr} {od_Plain_write an_Plain_write : Option Addr} {sl_Plain_write : Array (Option Value)} {oc_Plain_write kV_Plain_write dc_Plain_write pm_Plain_write cd_Plain_write ct_Plain_write : Value}
    {f_Plain_read : Addr} {od_Plain_read an_Plain_read : Option Addr} {sl_Plain_read : Array (Option Value)} {oc_Plain_read kV_Plain_read dc_Plain_read pm_Plain_read cd_Plain_read ct_Plain_read : Value}
    {f_Plain_held : Addr} {od_Plain_held an_Plain_held : Option Addr} {sl_Plain_held : Array (Option Value)} {oc_Plain_held kV_Plain_held dc_Plain_held pm_Plain_held cd_Plain_held ct_Plain_held : Value}
    {f_endurance : Addr} {od_endurance an_endurance : Option Addr} {sl_endurance : Array (Option Value)} {oc_endurance kV_endurance dc_endurance pm_endurance cd_endurance ct_endurance : Value}
    {f_Chip_init : Addr} {od_Chip_init an_Chip_init : Option Addr} {sl_Chip_init : Array (Option Value)} {oc_Chip_init kV_Chip_init dc_Chip_init pm_Chip_init cd_Chip_init ct_Chip_init : Value}
    {dV_Chip_init : Value}
    {f_Chip_need_page : Addr} {od_Chip_need_page an_Chip_need_page : Option Addr} {sl_Chip_need_page : Array (Option Value)} {oc_Chip_need_page kV_Chip_need_page dc_Chip_need_page pm_Chip_need_page cd_Chip_need_page ct_Chip_need_page : Value}
    {f_Chip_need_block : Addr} {od_Chip_need_block an_Chip_need_block : Option Addr} {sl_Chip_need_block : Array (Option Value)} {oc_Chip_need_block kV_Chip_need_block dc_Chip_need_block pm_Chip_need_block cd_Chip_need_block ct_Chip_need_block : Value}
    {f_Chip_need_power : Addr} {od_Chip_need_power an_Chip_need_power : Option Addr} {sl_Chip_need_power : Array (Option Value)} {oc_Chip_need_power kV_Chip_need_power dc_Chip_need_power pm_Chip_need_power cd_Chip_need_power ct_Chip_need_power : Value}
    {f_Chip_need_good : Addr} {od_Chip_need_good an_Chip_need_good : Option Addr} {sl_Chip_need_good : Array (Option Value)} {oc_Chip_need_good kV_Chip_need_good dc_Chip_need_good pm_Chip_need_good cd_Chip_need_good ct_Chip_need_good : Value}
    {f_Chip_goes_well : Addr} {od_Chip_goes_well an_Chip_goes_well : Option Addr} {sl_Chip_goes_well : Array (Option Value)} {oc_Chip_goes_well kV_Chip_goes_well dc_Chip_goes_well pm_Chip_goes_well cd_Chip_goes_well ct_Chip_goes_well : Value}
    {f_Chip_put : Addr} {od_Chip_put an_Chip_put : Option Addr} {sl_Chip_put : Array (Option Value)} {oc_Chip_put kV_Chip_put dc_Chip_put pm_Chip_put cd_Chip_put ct_Chip_put : Value}
    {f_Chip_wipe : Addr} {od_Chip_wipe an_Chip_wipe : Option Addr} {sl_Chip_wipe : Array (Option Value)} {oc_Chip_wipe kV_Chip_wipe dc_Chip_wipe pm_Chip_wipe cd_Chip_wipe ct_Chip_wipe : Value}
    {f_Chip_read : Addr} {od_Chip_read an_Chip_read : Option Addr} {sl_Chip_read : Array (Option Value)} {oc_Chip_read kV_Chip_read dc_Chip_read pm_Chip_read cd_Chip_read ct_Chip_read : Value}
    {f_Chip_is_dark : Addr} {od_Chip_is_dark an_Chip_is_dark : Option Addr} {sl_Chip_is_dark : Array (Option Value)} {oc_Chip_is_dark kV_Chip_is_dark dc_Chip_is_dark pm_Chip_is_dark cd_Chip_is_dark ct_Chip_is_dark : Value}
    {f_Chip_cleared : Addr} {od_Chip_cleared an_Chip_cleared : Option Addr} {sl_Chip_cleared : Array (Option Value)} {oc_Chip_cleared kV_Chip_cleared dc_Chip_cleared pm_Chip_cleared cd_Chip_cleared ct_Chip_cleared : Value}
    {f_Chip_failed : Addr} {od_Chip_failed an_Chip_failed : Option Addr} {sl_Chip_failed : Array (Option Value)} {oc_Chip_failed kV_Chip_failed dc_Chip_failed pm_Chip_failed cd_Chip_failed ct_Chip_failed : Value}
    {f_Chip_deeds : Addr} {od_Chip_deeds an_Chip_deeds : Option Addr} {sl_Chip_deeds : Array (Option Value)} {oc_Chip_deeds kV_Chip_deeds dc_Chip_deeds pm_Chip_deeds cd_Chip_deeds ct_Chip_deeds : Value}
    {f_Terms_init : Addr} {od_Terms_init an_Terms_init : Option Addr} {sl_Terms_init : Array (Option Value)} {oc_Terms_init kV_Terms_init dc_Terms_init pm_Terms_init cd_Terms_init ct_Terms_init : Value}
    {dV_Terms_init : Value}
    {f_Terms_closed : Addr} {od_Terms_closed an_Terms_closed : Option Addr} {sl_Terms_closed : Array (Option Value)} {oc_Terms_closed kV_Terms_closed dc_Terms_closed pm_Terms_closed cd_Terms_closed ct_Terms_closed : Value}
    {f__law_cell_at : Addr} {od__law_cell_at an__law_cell_at : Option Addr} {sl__law_cell_at : Array (Option Value)} {oc__law_cell_at kV__law_cell_at dc__law_cell_at pm__law_cell_at cd__law_cell_at ct__law_cell_at : Value}
    {f__law_whole : Addr} {od__law_whole an__law_whole : Option Addr} {sl__law_whole : Array (Option Value)} {oc__law_whole kV__law_whole dc__law_whole pm__law_whole cd__law_whole ct__law_whole : Value}
    {f__law_numbers : Addr} {od__law_numbers an__law_numbers : Option Addr} {sl__law_numbers : Array (Option Value)} {oc__law_numbers kV__law_numbers dc__law_numbers pm__law_numbers cd__law_numbers ct__law_numbers : Value}
    {f__law_same : Addr} {od__law_same an__law_same : Option Addr} {sl__law_same : Array (Option Value)} {oc__law_same kV__law_same dc__law_same pm__law_same cd__law_same ct__law_same : Value}
    {f__law_done : Addr} {od__law_done an__law_done : Option Addr} {sl__law_done : Array (Option Value)} {oc__law_done kV__law_done dc__law_done pm__law_done cd__law_done ct__law_done : Value}
    {f__law_wiped : Addr} {od__law_wiped an__law_wiped : Option Addr} {sl__law_wiped : Array (Option Value)} {oc__law_wiped kV__law_wiped dc__law_wiped pm__law_wiped cd__law_wiped ct__law_wiped : Value}
    {f__law_good : Addr} {od__law_good an__law_good : Option Addr} {sl__law_good : Array (Option Value)} {oc__law_good kV__law_good dc__law_good pm__law_good cd__law_good ct__law_good : Value}
    {f__law_free : Addr} {od__law_free an__law_free : Option Addr} {sl__law_free : Array (Option Value)} {oc__law_free kV__law_free dc__law_free pm__law_free cd__law_free ct__law_free : Value}
    {f__law_part : Addr} {od__law_part an__law_part : Option Addr} {sl__law_part : Array (Option Value)} {oc__law_part kV__law_part dc__law_part pm__law_part cd__law_part ct__law_part : Value}
    {f__law_spot : Addr} {od__law_spot an__law_spot : Option Addr} {sl__law_spot : Array (Option Value)} {oc__law_spot kV__law_spot dc__law_spot pm__law_spot cd__law_spot ct__law_spot : Value}
    {f__law_asks : Addr} {od__law_asks an__law_asks : Option Addr} {sl__law_asks : Array (Option Value)} {oc__law_asks kV__law_asks dc__law_asks pm__law_asks cd__law_asks ct__law_asks : Value}
    {f__law_set : Addr} {od__law_set an__law_set : Option Addr} {sl__law_set : Array (Option Value)} {oc__law_set kV__law_set dc__law_set pm__law_set cd__law_set ct__law_set : Value}
    {f__law_unready : Addr} {od__law_unready an__law_unready : Option Addr} {sl__law_unready : Array (Option Value)} {oc__law_unready kV__law_unready dc__law_unready pm__law_unready cd__law_unready ct__law_unready : Value}
    {f__law_step : Addr} {od__law_step an__law_step : Option Addr} {sl__law_step : Array (Option Value)} {oc__law_step kV__law_step dc__law_step pm__law_step cd__law_step ct__law_step : Value}
    {f__law_lies : Addr} {od__law_lies an__law_lies : Option Addr} {sl__law_lies : Array (Option Value)} {oc__law_lies kV__law_lies dc__law_lies pm__law_lies cd__law_lies ct__law_lies : Value}
    {f_law : Addr} {od_law an_law : Option Addr} {sl_law : Array (Option Value)} {oc_law kV_law dc_law pm_law cd_law ct_law : Value}
    {C_Book : Addr}
    {C_Plain : Addr}
    {C_Chip : Addr}
    {C_Terms : Addr}
    {C_WornError : Addr}
    {C_NoChip : Addr}
    {C_NoPlace : Addr}
    {C_PowerGone : Addr}
    {C_BlockFailed : Addr}
    {nm_BlockFailed q_BlockFailed : Str} {N_BlockFailed : Addr} {bs_BlockFailed bm_BlockFailed : List Value} {sn_BlockFailed : List Str} {sub_BlockFailed : List Value} {ab_BlockFailed : Bool} {col_BlockFailed : Option Bool} {dd_BlockFailed : Option Addr} {k0_BlockFailed k1_BlockFailed k2_BlockFailed k3_BlockFailed k5_BlockFailed : Option Value}
    {C_NotClear : Addr}
    {nm_NotClear q_NotClear : Str} {N_NotClear : Addr} {bs_NotClear bm_NotClear : List Value} {sn_NotClear : List Str} {sub_NotClear : List Value} {ab_NotClear : Bool} {col_NotClear : Option Bool} {dd_NotClear : Option Addr} {k0_NotClear k1_NotClear k2_NotClear k3_NotClear k5_NotClear : Option Value}
    {C_NoTerms : Addr}
    {C_NoSheet : Addr}
    {C_NoValue : Addr}
    {C_Full : Addr}
    {C_NoRoom : Addr}
    {t_ROLL : Tok}
    {t_MANY : Tok}
    {t_MOST : Tok}
    (a_mark_of : PySem.W.nsIn K mainGlobals "mark_of" = some (some (.ref f_mark_of)))
    (l_mark_of : K.lookup f_mark_of = some ⟨oc_mark_of, od_mark_of, .func (PySem.W.fnOf "mark_of" "mark_of" (defArgs s_mark_of) (defBody s_mark_of) (defScope s_mark_of) .none kV_mark_of dc_mark_of pm_mark_of an_mark_of cd_mark_of ct_mark_of), sl_mark_of⟩)
    (c_mark_of : PySem.W.codeIn K cd_mark_of "mark_of" = true)
    (k_mark_of : PySem.W.keepIn K (.ref f_mark_of) = true)
    (l_Book_init : K.lookup f_Book_init = some ⟨oc_Book_init, od_Book_init, .func (PySem.W.fnOf "__init__" "Book.__init__" (defArgs s_Book_init) (defBody s_Book_init) (defScope s_Book_init) .none kV_Book_init dc_Book_init pm_Book_init an_Book_init cd_Book_init ct_Book_init), sl_Book_init⟩)
    (c_Book_init : PySem.W.codeIn K cd_Book_init "Book.__init__" = true)
    (k_Book_init : PySem.W.keepIn K (.ref f_Book_init) = true)
    (l_Book_mark : K.lookup f_Book_mark = some ⟨oc_Book_mark, od_Book_mark, .func (PySem.W.fnOf "mark" "Book.mark" (defArgs s_Book_mark) (defBody s_Book_mark) (defScope s_Book_mark) .none kV_Book_mark dc_Book_mark pm_Book_mark an_Book_mark cd_Book_mark ct_Book_mark), sl_Book_mark⟩)
    (c_Book_mark : PySem.W.codeIn K cd_Book_mark "Book.mark" = true)
    (k_Book_mark : PySem.W.keepIn K (.ref f_Book_mark) = true)
    (l_Book_note : K.lookup f_Book_note = some ⟨oc_Book_note, od_Book_note, .func (PySem.W.fnOf "note" "Book.note" (defArgs s_Book_note) (defBody s_Book_note) (defScope s_Book_note) .none kV_Book_note dc_Book_note pm_Book_note an_Book_note cd_Book_note ct_Book_note), sl_Book_note⟩)
    (c_Book_note : PySem.W.codeIn K cd_Book_note "Book.note" = true)
    (k_Book_note : PySem.W.keepIn K (.ref f_Book_note) = true)
    (l_Book_forget : K.lookup f_Book_forget = some ⟨oc_Book_forget, od_Book_forget, .func (PySem.W.fnOf "forget" "Book.forget" (defArgs s_Book_forget) (defBody s_Book_forget) (defScope s_Book_forget) .none kV_Book_forget dc_Book_forget pm_Book_forget an_Book_forget cd_Book_forget ct_Book_forget), sl_Book_forget⟩)
    (c_Book_forget : PySem.W.codeIn K cd_Book_forget "Book.forget" = true)
    (k_Book_forget : PySem.W.keepIn K (.ref f_Book_forget) = true)
    (l_Book_held : K.lookup f_Book_held = some ⟨oc_Book_held, od_Book_held, .func (PySem.W.fnOf "held" "Book.held" (defArgs s_Book_held) (defBody s_Book_held) (defScope s_Book_held) .none kV_Book_held dc_Book_held pm_Book_held an_Book_held cd_Book_held ct_Book_held), sl_Book_held⟩)
    (c_Book_held : PySem.W.codeIn K cd_Book_held "Book.held" = true)
    (k_Book_held : PySem.W.keepIn K (.ref f_Book_held) = true)
    (l_Book_tell : K.lookup f_Book_tell = some ⟨oc_Book_tell, od_Book_tell, .func (PySem.W.fnOf "tell" "Book.tell" (defArgs s_Book_tell) (defBody s_Book_tell) (defScope s_Book_tell) .none kV_Book_tell dc_Book_tell pm_Book_tell an_Book_tell cd_Book_tell ct_Book_tell), sl_Book_tell⟩)
    (c_Book_tell : PySem.W.codeIn K cd_Book_tell "Book.tell" = true)
    (k_Book_tell : PySem.W.keepIn K (.ref f_Book_tell) = true)
    (l_BlockFailed_init : K.lookup f_BlockFailed_init = some ⟨oc_BlockFailed_init, od_BlockFailed_init, .func (PySem.W.fnOf "__init__" "BlockFailed.__init__" (defArgs s_BlockFailed_init) (defBody s_BlockFailed_init) (defScope s_BlockFailed_init) .none kV_BlockFailed_init dc_BlockFailed_init pm_BlockFailed_init an_BlockFailed_init cd_BlockFailed_init ct_BlockFailed_init), sl_BlockFailed_init⟩)
    (c_BlockFailed_init : PySem.W.codeIn K cd_BlockFailed_init "BlockFailed.__init__" = true)
    (k_BlockFailed_init : PySem.W.keepIn K (.ref f_BlockFailed_init) = true)
    (l_NotClear_init : K.lookup f_NotClear_init = some ⟨oc_NotClear_init, od_NotClear_init, .func (PySem.W.fnOf "__init__" "NotClear.__init__" (defArgs s_NotClear_init) (defBody s_NotClear_init) (defScope s_NotClear_init) .none kV_NotClear_init dc_NotClear_init pm_NotClear_init an_NotClear_init cd_NotClear_init ct_NotClear_init), sl_NotClear_init⟩)
    (c_NotClear_init : PySem.W.codeIn K cd_NotClear_init "NotClear.__init__" = true)
    (k_NotClear_init : PySem.W.keepIn K (.ref f_NotClear_init) = true)
    (a_is_whole : PySem.W.nsIn K mainGlobals "is_whole" = some (some (.ref f_is_whole)))
    (l_is_whole : K.lookup f_is_whole = some ⟨oc_is_whole, od_is_whole, .func (PySem.W.fnOf "is_whole" "is_whole" (defArgs s_is_whole) (defBody s_is_whole) (defScope s_is_whole) .none kV_is_whole dc_is_whole pm_is_whole an_is_whole cd_is_whole ct_is_whole), sl_is_whole⟩)
    (c_is_whole : PySem.W.codeIn K cd_is_whole "is_whole" = true)
    (k_is_whole : PySem.W.keepIn K (.ref f_is_whole) = true)
    (a_is_within : PySem.W.nsIn K mainGlobals "is_within" = some (some (.ref f_is_within)))
    (l_is_within : K.lookup f_is_within = some ⟨oc_is_within, od_is_within, .func (PySem.W.fnOf "is_within" "is_within" (defArgs s_is_within) (defBody s_is_within) (defScope s_is_within) .none kV_is_within dc_is_within pm_is_within an_is_within cd_is_within ct_is_within), sl_is_within⟩)
    (c_is_within : PySem.W.codeIn K cd_is_within "is_within" = true)
    (k_is_within : PySem.W.keepIn K (.ref f_is_within) = true)
    (l_Plain_init : K.lookup f_Plain_init = some ⟨oc_Plain_init, od_Plain_init, .func (PySem.W.fnOf "__init__" "Plain.__init__" (defArgs s_Plain_init) (defBody s_Plain_init) (defScope s_Plain_init) .none kV_Plain_init dc_Plain_init pm_Plain_init an_Plain_init cd_Plain_init ct_Plain_init), sl_Plain_init⟩)
    (c_Plain_init : PySem.W.codeIn K cd_Plain_init "Plain.__init__" = true)
    (k_Plain_init : PySem.W.keepIn K (.ref f_Plain_init) = true)
    (l_Plain_good : K.lookup f_Plain_good = some ⟨oc_Plain_good, od_Plain_good, .func (PySem.W.fnOf "good" "Plain.good" (defArgs s_Plain_good) (defBody s_Plain_good) (defScope s_Plain_good) .none kV_Plain_good dc_Plain_good pm_Plain_good an_Plain_good cd_Plain_good ct_Plain_good), sl_Plain_good⟩)
    (c_Plain_good : PySem.W.codeIn K cd_Plain_good "Plain.good" = true)
    (k_Plain_good : PySem.W.keepIn K (.ref f_Plain_good) = true)
    (l_Plain_free : K.lookup f_Plain_free = some ⟨oc_Plain_free, od_Plain_free, .func (PySem.W.fnOf "free" "Plain.free" (defArgs s_Plain_free) (defBody s_Plain_free) (defScope s_Plain_free) .none kV_Plain_free dc_Plain_free pm_Plain_free an_Plain_free cd_Plain_free ct_Plain_free), sl_Plain_free⟩)
    (c_Plain_free : PySem.W.codeIn K cd_Plain_free "Plain.free" = true)
    (k_Plain_free : PySem.W.keepIn K (.ref f_Plain_free) = true)
    (l_Plain_part : K.lookup f_Plain_part = some ⟨oc_Plain_part, od_Plain_part, .func (PySem.W.fnOf "part" "Plain.part" (defArgs s_Plain_part) (defBody s_Plain_part) (defScope s_Plain_part) .none kV_Plain_part dc_Plain_part pm_Plain_part an_Plain_part cd_Plain_part ct_Plain_part), sl_Plain_part⟩)
    (c_Plain_part : PySem.W.codeIn K cd_Plain_part "Plain.part" = true)
    (k_Plain_part : PySem.W.keepIn K (.ref f_Plain_part) = true)
    (l_Plain_spot : K.lookup f_Plain_spot = some ⟨oc_Plain_spot, od_Plain_spot, .func (PySem.W.fnOf "spot" "Plain.spot" (defArgs s_Plain_spot) (defBody s_Plain_spot) (defScope s_Plain_spot) .none kV_Plain_spot dc_Plain_spot pm_Plain_spot an_Plain_spot cd_Plain_spot ct_Plain_spot), sl_Plain_spot⟩)
    (c_Plain_spot : PySem.W.codeIn K cd_Plain_spot "Plain.spot" = true)
    (k_Plain_spot : PySem.W.keepIn K (.ref f_Plain_spot) = true)
    (l_Plain_reserve : K.lookup f_Plain_reserve = some ⟨oc_Plain_reserve, od_Plain_reserve, .func (PySem.W.fnOf "reserve" "Plain.reserve" (defArgs s_Plain_reserve) (defBody s_Plain_reserve) (defScope s_Plain_reserve) .none kV_Plain_reserve dc_Plain_reserve pm_Plain_reserve an_Plain_reserve cd_Plain_reserve ct_Plain_reserve), sl_Plain_reserve⟩)
    (c_Plain_reserve : PySem.W.codeIn K cd_Plain_reserve "Plain.reserve" = true)
    (k_Plain_reserve : PySem.W.keepIn K (.ref f_Plain_reserve) = true)
    (l_Plain_ready : K.lookup f_Plain_ready = some ⟨oc_Plain_ready, od_Plain_ready, .func (PySem.W.fnOf "ready" "Plain.ready" (defArgs s_Plain_ready) (defBody s_Plain_ready) (defScope s_Plain_ready) .none kV_Plain_ready dc_Plain_ready pm_Plain_ready an_Plain_ready cd_Plain_ready ct_Plain_ready), sl_Plain_ready⟩)
    (c_Plain_ready : PySem.W.codeIn K cd_Plain_ready "Plain.ready" = true)
    (k_Plain_ready : PySem.W.keepIn K (.ref f_Plain_ready) = true)
    (l_Plain_make_ready : K.lookup f_Plain_make_ready = some ⟨oc_Plain_make_ready, od_Plain_make_ready, .func (PySem.W.fnOf "make_ready" "Plain.make_ready" (defArgs s_Plain_make_ready) (defBody s_Plain_make_ready) (defScope s_Plain_make_ready) .none kV_Plain_make_ready dc_Plain_make_ready pm_Plain_make_ready an_Plain_make_ready cd_Plain_make_ready ct_Plain_make_ready), sl_Plain_make_ready⟩)
    (c_Plain_make_ready : PySem.W.codeIn K cd_Plain_make_ready "Plain.make_ready" = true)
    (k_Plain_make_ready : PySem.W.keepIn K (.ref f_Plain_make_ready) = true)
    (l_Plain_set_down : K.lookup f_Plain_set_down = some ⟨oc_Plain_set_down, od_Plain_set_down, .func (PySem.W.fnOf "set_down" "Plain.set_down" (defArgs s_Plain_set_down) (defBody s_Plain_set_down) (defScope s_Plain_set_down) .none kV_Plain_set_down dc_Plain_set_down pm_Plain_set_down an_Plain_set_down cd_Plain_set_down ct_Plain_set_down), sl_Plain_set_down⟩)
    (c_Plain_set_down : PySem.W.codeIn K cd_Plain_set_down "Plain.set_down" = true)
    (k_Plain_set_down : PySem.W.keepIn K (.ref f_Plain_set_down) = true)
    (l_Plain_lay : K.lookup f_Plain_lay = some ⟨oc_Plain_lay, od_Plain_lay, .func (PySem.W.fnOf "lay" "Plain.lay" (defArgs s_Plain_lay) (defBody s_Plain_lay) (defScope s_Plain_lay) .none kV_Plain_lay dc_Plain_lay pm_Plain_lay an_Plain_lay cd_Plain_lay ct_Plain_lay), sl_Plain_lay⟩)
    (c_Plain_lay : PySem.W.codeIn K cd_Plain_lay "Plain.lay" = true)
    (k_Plain_lay : PySem.W.keepIn K (.ref f_Plain_lay) = true)
    (l_Plain_need_sheet : K.lookup f_Plain_need_sheet = some ⟨oc_Plain_need_sheet, od_Plain_need_sheet, .func (PySem.W.fnOf "need_sheet" "Plain.need_sheet" (defArgs s_Plain_need_sheet) (defBody s_Plain_need_sheet) (defScope s_Plain_need_sheet) .none kV_Plain_need_sheet dc_Plain_need_sheet pm_Plain_need_sheet an_Plain_need_sheet cd_Plain_need_sheet ct_Plain_need_sheet), sl_Plain_need_sheet⟩)
    (c_Plain_need_sheet : PySem.W.codeIn K cd_Plain_need_sheet "Plain.need_sheet" = true)
    (k_Plain_need_sheet : PySem.W.keepIn K (.ref f_Plain_need_sheet) = true)
    (l_Plain_write : K.lookup f_Plain_write = some ⟨oc_Plain_write, od_Plain_write, .func (PySem.W.fnOf "write" "Plain.write" (defArgs s_Plain_write) (defBody s_Plain_write) (defScope s_Plain_write) .none kV_Plain_write dc_Plain_write pm_Plain_write an_Plain_write cd_Plain_write ct_Plain_write), sl_Plain_write⟩)
    (c_Plain_write : PySem.W.codeIn K cd_Plain_write "Plain.write" = true)
    (k_Plain_write : PySem.W.keepIn K (.ref f_Plain_write) = true)
    (l_Plain_read : K.lookup f_Plain_read = some ⟨oc_Plain_read, od_Plain_read, .func (PySem.W.fnOf "read" "Plain.read" (defArgs s_Plain_read) (defBody s_Plain_read) (defScope s_Plain_read) .none kV_Plain_read dc_Plain_read pm_Plain_read an_Plain_read cd_Plain_read ct_Plain_read), sl_Plain_read⟩)
    (c_Plain_read : PySem.W.codeIn K cd_Plain_read "Plain.read" = true)
    (k_Plain_read : PySem.W.keepIn K (.ref f_Plain_read) = true)
    (l_Plain_held : K.lookup f_Plain_held = some ⟨oc_Plain_held, od_Plain_held, .func (PySem.W.fnOf "held" "Plain.held" (defArgs s_Plain_held) (defBody s_Plain_held) (defScope s_Plain_held) .none kV_Plain_held dc_Plain_held pm_Plain_held an_Plain_held cd_Plain_held ct_Plain_held), sl_Plain_held⟩)
    (c_Plain_held : PySem.W.codeIn K cd_Plain_held "Plain.held" = true)
    (k_Plain_held : PySem.W.keepIn K (.ref f_Plain_held) = true)
    (a_endurance : PySem.W.nsIn K mainGlobals "endurance" = some (some (.ref f_endurance)))
    (l_endurance : K.lookup f_endurance = some ⟨oc_endurance, od_endurance, .func (PySem.W.fnOf "endurance" "endurance" (defArgs s_endurance) (defBody s_endurance) (defScope s_endurance) .none kV_endurance dc_endurance pm_endurance an_endurance cd_endurance ct_endurance), sl_endurance⟩)
    (c_endurance : PySem.W.codeIn K cd_endurance "endurance" = true)
    (k_endurance : PySem.W.keepIn K (.ref f_endurance) = true)
    (l_Chip_init : K.lookup f_Chip_init = some ⟨oc_Chip_init, od_Chip_init, .func (PySem.W.fnOf "__init__" "Chip.__init__" (defArgs s_Chip_init) (defBody s_Chip_init) (defScope s_Chip_init) dV_Chip_init kV_Chip_init dc_Chip_init pm_Chip_init an_Chip_init cd_Chip_init ct_Chip_init), sl_Chip_init⟩)
    (c_Chip_init : PySem.W.codeIn K cd_Chip_init "Chip.__init__" = true)
    (k_Chip_init : PySem.W.keepIn K (.ref f_Chip_init) = true)
    (df_Chip_init : He.dflB K dV_Chip_init dfl_Chip_init = true)
    (l_Chip_need_page : K.lookup f_Chip_need_page = some ⟨oc_Chip_need_page, od_Chip_need_page, .func (PySem.W.fnOf "need_page" "Chip.need_page" (defArgs s_Chip_need_page) (defBody s_Chip_need_page) (defScope s_Chip_need_page) .none kV_Chip_need_page dc_Chip_need_page pm_Chip_need_page an_Chip_need_page cd_Chip_need_page ct_Chip_need_page), sl_Chip_need_page⟩)
    (c_Chip_need_page : PySem.W.codeIn K cd_Chip_need_page "Chip.need_page" = true)
    (k_Chip_need_page : PySem.W.keepIn K (.ref f_Chip_need_page) = true)
    (l_Chip_need_block : K.lookup f_Chip_need_block = some ⟨oc_Chip_need_block, od_Chip_need_block, .func (PySem.W.fnOf "need_block" "Chip.need_block" (defArgs s_Chip_need_block) (defBody s_Chip_need_block) (defScope s_Chip_need_block) .none kV_Chip_need_block dc_Chip_need_block pm_Chip_need_block an_Chip_need_block cd_Chip_need_block ct_Chip_need_block), sl_Chip_need_block⟩)
    (c_Chip_need_block : PySem.W.codeIn K cd_Chip_need_block "Chip.need_block" = true)
    (k_Chip_need_block : PySem.W.keepIn K (.ref f_Chip_need_block) = true)
    (l_Chip_need_power : K.lookup f_Chip_need_power = some ⟨oc_Chip_need_power, od_Chip_need_power, .func (PySem.W.fnOf "need_power" "Chip.need_power" (defArgs s_Chip_need_power) (defBody s_Chip_need_power) (defScope s_Chip_need_power) .none kV_Chip_need_power dc_Chip_need_power pm_Chip_need_power an_Chip_need_power cd_Chip_need_power ct_Chip_need_power), sl_Chip_need_power⟩)
    (c_Chip_need_power : PySem.W.codeIn K cd_Chip_need_power "Chip.need_power" = true)
    (k_Chip_need_power : PySem.W.keepIn K (.ref f_Chip_need_power) = true)
    (l_Chip_need_good : K.lookup f_Chip_need_good = some ⟨oc_Chip_need_good, od_Chip_need_good, .func (PySem.W.fnOf "need_good" "Chip.need_good" (defArgs s_Chip_need_good) (defBody s_Chip_need_good) (defScope s_Chip_need_good) .none kV_Chip_need_good dc_Chip_need_good pm_Chip_need_good an_Chip_need_good cd_Chip_need_good ct_Chip_need_good), sl_Chip_need_good⟩)
    (c_Chip_need_good : PySem.W.codeIn K cd_Chip_need_good "Chip.need_good" = true)
    (k_Chip_need_good : PySem.W.keepIn K (.ref f_Chip_need_good) = true)
    (l_Chip_goes_well : K.lookup f_Chip_goes_well = some ⟨oc_Chip_goes_well, od_Chip_goes_well, .func (PySem.W.fnOf "goes_well" "Chip.goes_well" (defArgs s_Chip_goes_well) (defBody s_Chip_goes_well) (defScope s_Chip_goes_well) .none kV_Chip_goes_well dc_Chip_goes_well pm_Chip_goes_well an_Chip_goes_well cd_Chip_goes_well ct_Chip_goes_well), sl_Chip_goes_well⟩)
    (c_Chip_goes_well : PySem.W.codeIn K cd_Chip_goes_well "Chip.goes_well" = true)
    (k_Chip_goes_well : PySem.W.keepIn K (.ref f_Chip_goes_well) = true)
    (l_Chip_put : K.lookup f_Chip_put = some ⟨oc_Chip_put, od_Chip_put, .func (PySem.W.fnOf "put" "Chip.put" (defArgs s_Chip_put) (defBody s_Chip_put) (defScope s_Chip_put) .none kV_Chip_put dc_Chip_put pm_Chip_put an_Chip_put cd_Chip_put ct_Chip_put), sl_Chip_put⟩)
    (c_Chip_put : PySem.W.codeIn K cd_Chip_put "Chip.put" = true)
    (k_Chip_put : PySem.W.keepIn K (.ref f_Chip_put) = true)
    (l_Chip_wipe : K.lookup f_Chip_wipe = some ⟨oc_Chip_wipe, od_Chip_wipe, .func (PySem.W.fnOf "wipe" "Chip.wipe" (defArgs s_Chip_wipe) (defBody s_Chip_wipe) (defScope s_Chip_wipe) .none kV_Chip_wipe dc_Chip_wipe pm_Chip_wipe an_Chip_wipe cd_Chip_wipe ct_Chip_wipe), sl_Chip_wipe⟩)
    (c_Chip_wipe : PySem.W.codeIn K cd_Chip_wipe "Chip.wipe" = true)
    (k_Chip_wipe : PySem.W.keepIn K (.ref f_Chip_wipe) = true)
    (l_Chip_read : K.lookup f_Chip_read = some ⟨oc_Chip_read, od_Chip_read, .func (PySem.W.fnOf "read" "Chip.read" (defArgs s_Chip_read) (defBody s_Chip_read) (defScope s_Chip_read) .none kV_Chip_read dc_Chip_read pm_Chip_read an_Chip_read cd_Chip_read ct_Chip_read), sl_Chip_read⟩)
    (c_Chip_read : PySem.W.codeIn K cd_Chip_read "Chip.read" = true)
    (k_Chip_read : PySem.W.keepIn K (.ref f_Chip_read) = true)
    (l_Chip_is_dark : K.lookup f_Chip_is_dark = some ⟨oc_Chip_is_dark, od_Chip_is_dark, .func (PySem.W.fnOf "is_dark" "Chip.is_dark" (defArgs s_Chip_is_dark) (defBody s_Chip_is_dark) (defScope s_Chip_is_dark) .none kV_Chip_is_dark dc_Chip_is_dark pm_Chip_is_dark an_Chip_is_dark cd_Chip_is_dark ct_Chip_is_dark), sl_Chip_is_dark⟩)
    (c_Chip_is_dark : PySem.W.codeIn K cd_Chip_is_dark "Chip.is_dark" = true)
    (k_Chip_is_dark : PySem.W.keepIn K (.ref f_Chip_is_dark) = true)
    (l_Chip_cleared : K.lookup f_Chip_cleared = some ⟨oc_Chip_cleared, od_Chip_cleared, .func (PySem.W.fnOf "cleared" "Chip.cleared" (defArgs s_Chip_cleared) (defBody s_Chip_cleared) (defScope s_Chip_cleared) .none kV_Chip_cleared dc_Chip_cleared pm_Chip_cleared an_Chip_cleared cd_Chip_cleared ct_Chip_cleared), sl_Chip_cleared⟩)
    (c_Chip_cleared : PySem.W.codeIn K cd_Chip_cleared "Chip.cleared" = true)
    (k_Chip_cleared : PySem.W.keepIn K (.ref f_Chip_cleared) = true)
    (l_Chip_failed : K.lookup f_Chip_failed = some ⟨oc_Chip_failed, od_Chip_failed, .func (PySem.W.fnOf "failed" "Chip.failed" (defArgs s_Chip_failed) (defBody s_Chip_failed) (defScope s_Chip_failed) .none kV_Chip_failed dc_Chip_failed pm_Chip_failed an_Chip_failed cd_Chip_failed ct_Chip_failed), sl_Chip_failed⟩)
    (c_Chip_failed : PySem.W.codeIn K cd_Chip_failed "Chip.failed" = true)
    (k_Chip_failed : PySem.W.keepIn K (.ref f_Chip_failed) = true)
    (l_Chip_deeds : K.lookup f_Chip_deeds = some ⟨oc_Chip_deeds, od_Chip_deeds, .func (PySem.W.fnOf "deeds" "Chip.deeds" (defArgs s_Chip_deeds) (defBody s_Chip_deeds) (defScope s_Chip_deeds) .none kV_Chip_deeds dc_Chip_deeds pm_Chip_deeds an_Chip_deeds cd_Chip_deeds ct_Chip_deeds), sl_Chip_deeds⟩)
    (c_Chip_deeds : PySem.W.codeIn K cd_Chip_deeds "Chip.deeds" = true)
    (k_Chip_deeds : PySem.W.keepIn K (.ref f_Chip_deeds) = true)
    (l_Terms_init : K.lookup f_Terms_init = some ⟨oc_Terms_init, od_Terms_init, .func (PySem.W.fnOf "__init__" "Terms.__init__" (defArgs s_Terms_init) (defBody s_Terms_init) (defScope s_Terms_init) dV_Terms_init kV_Terms_init dc_Terms_init pm_Terms_init an_Terms_init cd_Terms_init ct_Terms_init), sl_Terms_init⟩)
    (c_Terms_init : PySem.W.codeIn K cd_Terms_init "Terms.__init__" = true)
    (k_Terms_init : PySem.W.keepIn K (.ref f_Terms_init) = true)
    (df_Terms_init : He.dflB K dV_Terms_init dfl_Terms_init = true)
    (l_Terms_closed : K.lookup f_Terms_closed = some ⟨oc_Terms_closed, od_Terms_closed, .func (PySem.W.fnOf "closed" "Terms.closed" (defArgs s_Terms_closed) (defBody s_Terms_closed) (defScope s_Terms_closed) .none kV_Terms_closed dc_Terms_closed pm_Terms_closed an_Terms_closed cd_Terms_closed ct_Terms_closed), sl_Terms_closed⟩)
    (c_Terms_closed : PySem.W.codeIn K cd_Terms_closed "Terms.closed" = true)
    (k_Terms_closed : PySem.W.keepIn K (.ref f_Terms_closed) = true)
    (a__law_cell_at : PySem.W.nsIn K mainGlobals "_law_cell_at" = some (some (.ref f__law_cell_at)))
    (l__law_cell_at : K.lookup f__law_cell_at = some ⟨oc__law_cell_at, od__law_cell_at, .func (PySem.W.fnOf "_law_cell_at" "_law_cell_at" (defArgs s__law_cell_at) (defBody s__law_cell_at) (defScope s__law_cell_at) .none kV__law_cell_at dc__law_cell_at pm__law_cell_at an__law_cell_at cd__law_cell_at ct__law_cell_at), sl__law_cell_at⟩)
    (c__law_cell_at : PySem.W.codeIn K cd__law_cell_at "_law_cell_at" = true)
    (k__law_cell_at : PySem.W.keepIn K (.ref f__law_cell_at) = true)
    (a__law_whole : PySem.W.nsIn K mainGlobals "_law_whole" = some (some (.ref f__law_whole)))
    (l__law_whole : K.lookup f__law_whole = some ⟨oc__law_whole, od__law_whole, .func (PySem.W.fnOf "_law_whole" "_law_whole" (defArgs s__law_whole) (defBody s__law_whole) (defScope s__law_whole) .none kV__law_whole dc__law_whole pm__law_whole an__law_whole cd__law_whole ct__law_whole), sl__law_whole⟩)
    (c__law_whole : PySem.W.codeIn K cd__law_whole "_law_whole" = true)
    (k__law_whole : PySem.W.keepIn K (.ref f__law_whole) = true)
    (a__law_numbers : PySem.W.nsIn K mainGlobals "_law_numbers" = some (some (.ref f__law_numbers)))
    (l__law_numbers : K.lookup f__law_numbers = some ⟨oc__law_numbers, od__law_numbers, .func (PySem.W.fnOf "_law_numbers" "_law_numbers" (defArgs s__law_numbers) (defBody s__law_numbers) (defScope s__law_numbers) .none kV__law_numbers dc__law_numbers pm__law_numbers an__law_numbers cd__law_numbers ct__law_numbers), sl__law_numbers⟩)
    (c__law_numbers : PySem.W.codeIn K cd__law_numbers "_law_numbers" = true)
    (k__law_numbers : PySem.W.keepIn K (.ref f__law_numbers) = true)
    (a__law_same : PySem.W.nsIn K mainGlobals "_law_same" = some (some (.ref f__law_same)))
    (l__law_same : K.lookup f__law_same = some ⟨oc__law_same, od__law_same, .func (PySem.W.fnOf "_law_same" "_law_same" (defArgs s__law_same) (defBody s__law_same) (defScope s__law_same) .none kV__law_same dc__law_same pm__law_same an__law_same cd__law_same ct__law_same), sl__law_same⟩)
    (c__law_same : PySem.W.codeIn K cd__law_same "_law_same" = true)
    (k__law_same : PySem.W.keepIn K (.ref f__law_same) = true)
    (a__law_done : PySem.W.nsIn K mainGlobals "_law_done" = some (some (.ref f__law_done)))
    (l__law_done : K.lookup f__law_done = some ⟨oc__law_done, od__law_done, .func (PySem.W.fnOf "_law_done" "_law_done" (defArgs s__law_done) (defBody s__law_done) (defScope s__law_done) .none kV__law_done dc__law_done pm__law_done an__law_done cd__law_done ct__law_done), sl__law_done⟩)
    (c__law_done : PySem.W.codeIn K cd__law_done "_law_done" = true)
    (k__law_done : PySem.W.keepIn K (.ref f__law_done) = true)
    (a__law_wiped : PySem.W.nsIn K mainGlobals "_law_wiped" = some (some (.ref f__law_wiped)))
    (l__law_wiped : K.lookup f__law_wiped = some ⟨oc__law_wiped, od__law_wiped, .func (PySem.W.fnOf "_law_wiped" "_law_wiped" (defArgs s__law_wiped) (defBody s__law_wiped) (defScope s__law_wiped) .none kV__law_wiped dc__law_wiped pm__law_wiped an__law_wiped cd__law_wiped ct__law_wiped), sl__law_wiped⟩)
    (c__law_wiped : PySem.W.codeIn K cd__law_wiped "_law_wiped" = true)
    (k__law_wiped : PySem.W.keepIn K (.ref f__law_wiped) = true)
    (a__law_good : PySem.W.nsIn K mainGlobals "_law_good" = some (some (.ref f__law_good)))
    (l__law_good : K.lookup f__law_good = some ⟨oc__law_good, od__law_good, .func (PySem.W.fnOf "_law_good" "_law_good" (defArgs s__law_good) (defBody s__law_good) (defScope s__law_good) .none kV__law_good dc__law_good pm__law_good an__law_good cd__law_good ct__law_good), sl__law_good⟩)
    (c__law_good : PySem.W.codeIn K cd__law_good "_law_good" = true)
    (k__law_good : PySem.W.keepIn K (.ref f__law_good) = true)
    (a__law_free : PySem.W.nsIn K mainGlobals "_law_free" = some (some (.ref f__law_free)))
    (l__law_free : K.lookup f__law_free = some ⟨oc__law_free, od__law_free, .func (PySem.W.fnOf "_law_free" "_law_free" (defArgs s__law_free) (defBody s__law_free) (defScope s__law_free) .none kV__law_free dc__law_free pm__law_free an__law_free cd__law_free ct__law_free), sl__law_free⟩)
    (c__law_free : PySem.W.codeIn K cd__law_free "_law_free" = true)
    (k__law_free : PySem.W.keepIn K (.ref f__law_free) = true)
    (a__law_part : PySem.W.nsIn K mainGlobals "_law_part" = some (some (.ref f__law_part)))
    (l__law_part : K.lookup f__law_part = some ⟨oc__law_part, od__law_part, .func (PySem.W.fnOf "_law_part" "_law_part" (defArgs s__law_part) (defBody s__law_part) (defScope s__law_part) .none kV__law_part dc__law_part pm__law_part an__law_part cd__law_part ct__law_part), sl__law_part⟩)
    (c__law_part : PySem.W.codeIn K cd__law_part "_law_part" = true)
    (k__law_part : PySem.W.keepIn K (.ref f__law_part) = true)
    (a__law_spot : PySem.W.nsIn K mainGlobals "_law_spot" = some (some (.ref f__law_spot)))
    (l__law_spot : K.lookup f__law_spot = some ⟨oc__law_spot, od__law_spot, .func (PySem.W.fnOf "_law_spot" "_law_spot" (defArgs s__law_spot) (defBody s__law_spot) (defScope s__law_spot) .none kV__law_spot dc__law_spot pm__law_spot an__law_spot cd__law_spot ct__law_spot), sl__law_spot⟩)
    (c__law_spot : PySem.W.codeIn K cd__law_spot "_law_spot" = true)
    (k__law_spot : PySem.W.keepIn K (.ref f__law_spot) = true)
    (a__law_asks : PySem.W.nsIn K mainGlobals "_law_asks" = some (some (.ref f__law_asks)))
    (l__law_asks : K.lookup f__law_asks = some ⟨oc__law_asks, od__law_asks, .func (PySem.W.fnOf "_law_asks" "_law_asks" (defArgs s__law_asks) (defBody s__law_asks) (defScope s__law_asks) .none kV__law_asks dc__law_asks pm__law_asks an__law_asks cd__law_asks ct__law_asks), sl__law_asks⟩)
    (c__law_asks : PySem.W.codeIn K cd__law_asks "_law_asks" = true)
    (k__law_asks : PySem.W.keepIn K (.ref f__law_asks) = true)
    (a__law_set : PySem.W.nsIn K mainGlobals "_law_set" = some (some (.ref f__law_set)))
    (l__law_set : K.lookup f__law_set = some ⟨oc__law_set, od__law_set, .func (PySem.W.fnOf "_law_set" "_law_set" (defArgs s__law_set) (defBody s__law_set) (defScope s__law_set) .none kV__law_set dc__law_set pm__law_set an__law_set cd__law_set ct__law_set), sl__law_set⟩)
    (c__law_set : PySem.W.codeIn K cd__law_set "_law_set" = true)
    (k__law_set : PySem.W.keepIn K (.ref f__law_set) = true)
    (a__law_unready : PySem.W.nsIn K mainGlobals "_law_unready" = some (some (.ref f__law_unready)))
    (l__law_unready : K.lookup f__law_unready = some ⟨oc__law_unready, od__law_unready, .func (PySem.W.fnOf "_law_unready" "_law_unready" (defArgs s__law_unready) (defBody s__law_unready) (defScope s__law_unready) .none kV__law_unready dc__law_unready pm__law_unready an__law_unready cd__law_unready ct__law_unready), sl__law_unready⟩)
    (c__law_unready : PySem.W.codeIn K cd__law_unready "_law_unready" = true)
    (k__law_unready : PySem.W.keepIn K (.ref f__law_unready) = true)
    (a__law_step : PySem.W.nsIn K mainGlobals "_law_step" = some (some (.ref f__law_step)))
    (l__law_step : K.lookup f__law_step = some ⟨oc__law_step, od__law_step, .func (PySem.W.fnOf "_law_step" "_law_step" (defArgs s__law_step) (defBody s__law_step) (defScope s__law_step) .none kV__law_step dc__law_step pm__law_step an__law_step cd__law_step ct__law_step), sl__law_step⟩)
    (c__law_step : PySem.W.codeIn K cd__law_step "_law_step" = true)
    (k__law_step : PySem.W.keepIn K (.ref f__law_step) = true)
    (a__law_lies : PySem.W.nsIn K mainGlobals "_law_lies" = some (some (.ref f__law_lies)))
    (l__law_lies : K.lookup f__law_lies = some ⟨oc__law_lies, od__law_lies, .func (PySem.W.fnOf "_law_lies" "_law_lies" (defArgs s__law_lies) (defBody s__law_lies) (defScope s__law_lies) .none kV__law_lies dc__law_lies pm__law_lies an__law_lies cd__law_lies ct__law_lies), sl__law_lies⟩)
    (c__law_lies : PySem.W.codeIn K cd__law_lies "_law_lies" = true)
    (k__law_lies : PySem.W.keepIn K (.ref f__law_lies) = true)
    (a_law : PySem.W.nsIn K mainGlobals "law" = some (some (.ref f_law)))
    (l_law : K.lookup f_law = some ⟨oc_law, od_law, .func (PySem.W.fnOf "law" "law" (defArgs s_law) (defBody s_law) (defScope s_law) .none kV_law dc_law pm_law an_law cd_law ct_law), sl_law⟩)
    (c_law : PySem.W.codeIn K cd_law "law" = true)
    (k_law : PySem.W.keepIn K (.ref f_law) = true)
    (aC_Book : PySem.W.nsIn K mainGlobals "Book" = some (some (.ref C_Book)))
    (pg_Book : PySem.W.plainGet K C_Book Str.empty = true) (hd_Book : PySem.W.hasDictIn K C_Book = true) (po_Book : PySem.W.plainOver K C_Book = true) (sa_Book : PySem.W.findIn K (.ref C_Book) "__setattr__" = some (some (.builtin "object.__setattr__")))
    (na_Book_blocks : PySem.W.findIn K (.ref C_Book) "blocks" = some none)
    (na_Book_pages : PySem.W.findIn K (.ref C_Book) "pages" = some none)
    (na_Book_where : PySem.W.findIn K (.ref C_Book) "where" = some none)
    (na_Book_names : PySem.W.findIn K (.ref C_Book) "names" = some none)
    (na_Book_live : PySem.W.findIn K (.ref C_Book) "live" = some none)
    (na_Book_filled : PySem.W.findIn K (.ref C_Book) "filled" = some none)
    (na_Book_born : PySem.W.findIn K (.ref C_Book) "born" = some none)
    (na_Book_stamp : PySem.W.findIn K (.ref C_Book) "stamp" = some none)
    (at_Book_init : PySem.W.findIn K (.ref C_Book) "__init__" = some (some (.ref f_Book_init)))
    (fn_Book_init : PySem.W.isFn K (.ref f_Book_init) = true)
    (mi_Book : PySem.W.makesIn K C_Book = true) (kc_Book : PySem.W.keepIn K (.ref C_Book) = true)
    (at_Book_mark : PySem.W.findIn K (.ref C_Book) "mark" = some (some (.ref f_Book_mark)))
    (fn_Book_mark : PySem.W.isFn K (.ref f_Book_mark) = true)
    (at_Book_note : PySem.W.findIn K (.ref C_Book) "note" = some (some (.ref f_Book_note)))
    (fn_Book_note : PySem.W.isFn K (.ref f_Book_note) = true)
    (at_Book_forget : PySem.W.findIn K (.ref C_Book) "forget" = some (some (.ref f_Book_forget)))
    (fn_Book_forget : PySem.W.isFn K (.ref f_Book_forget) = true)
    (at_Book_held : PySem.W.findIn K (.ref C_Book) "held" = some (some (.ref f_Book_held)))
    (fn_Book_held : PySem.W.isFn K (.ref f_Book_held) = true)
    (at_Book_tell : PySem.W.findIn K (.ref C_Book) "tell" = some (some (.ref f_Book_tell)))
    (fn_Book_tell : PySem.W.isFn K (.ref f_Book_tell) = true)
    (aC_Plain : PySem.W.nsIn K mainGlobals "Plain" = some (some (.ref C_Plain)))
    (pg_Plain : PySem.W.plainGet K C_Plain Str.empty = true) (hd_Plain : PySem.W.hasDictIn K C_Plain = true) (po_Plain : PySem.W.plainOver K C_Plain = true) (sa_Plain : PySem.W.findIn K (.ref C_Plain) "__setattr__" = some (some (.builtin "object.__setattr__")))
    (na_Plain_chip : PySem.W.findIn K (.ref C_Plain) "chip" = some none)
    (na_Plain_terms : PySem.W.findIn K (.ref C_Plain) "terms" = some none)
    (na_Plain_book : PySem.W.findIn K (.ref C_Plain) "book" = some none)
    (at_Plain_init : PySem.W.findIn K (.ref C_Plain) "__init__" = some (some (.ref f_Plain_init)))
    (fn_Plain_init : PySem.W.isFn K (.ref f_Plain_init) = true)
    (mi_Plain : PySem.W.makesIn K C_Plain = true) (kc_Plain : PySem.W.keepIn K (.ref C_Plain) = true)
    (at_Plain_good : PySem.W.findIn K (.ref C_Plain) "good" = some (some (.ref f_Plain_good)))
    (fn_Plain_good : PySem.W.isFn K (.ref f_Plain_good) = true)
    (at_Plain_free : PySem.W.findIn K (.ref C_Plain) "free" = some (some (.ref f_Plain_free)))
    (fn_Plain_free : PySem.W.isFn K (.ref f_Plain_free) = true)
    (at_Plain_part : PySem.W.findIn K (.ref C_Plain) "part" = some (some (.ref f_Plain_part)))
    (fn_Plain_part : PySem.W.isFn K (.ref f_Plain_part) = true)
    (at_Plain_spot : PySem.W.findIn K (.ref C_Plain) "spot" = some (some (.ref f_Plain_spot)))
    (fn_Plain_spot : PySem.W.isFn K (.ref f_Plain_spot) = true)
    (at_Plain_reserve : PySem.W.findIn K (.ref C_Plain) "reserve" = some (some (.ref f_Plain_reserve)))
    (fn_Plain_reserve : PySem.W.isFn K (.ref f_Plain_reserve) = true)
    (at_Plain_ready : PySem.W.findIn K (.ref C_Plain) "ready" = some (some (.ref f_Plain_ready)))
    (fn_Plain_ready : PySem.W.isFn K (.ref f_Plain_ready) = true)
    (at_Plain_make_ready : PySem.W.findIn K (.ref C_Plain) "make_ready" = some (some (.ref f_Plain_make_ready)))
    (fn_Plain_make_ready : PySem.W.isFn K (.ref f_Plain_make_ready) = true)
    (at_Plain_set_down : PySem.W.findIn K (.ref C_Plain) "set_down" = some (some (.ref f_Plain_set_down)))
    (fn_Plain_set_down : PySem.W.isFn K (.ref f_Plain_set_down) = true)
    (at_Plain_lay : PySem.W.findIn K (.ref C_Plain) "lay" = some (some (.ref f_Plain_lay)))
    (fn_Plain_lay : PySem.W.isFn K (.ref f_Plain_lay) = true)
    (at_Plain_need_sheet : PySem.W.findIn K (.ref C_Plain) "need_sheet" = some (some (.ref f_Plain_need_sheet)))
    (fn_Plain_need_sheet : PySem.W.isFn K (.ref f_Plain_need_sheet) = true)
    (at_Plain_write : PySem.W.findIn K (.ref C_Plain) "write" = some (some (.ref f_Plain_write)))
    (fn_Plain_write : PySem.W.isFn K (.ref f_Plain_write) = true)
    (at_Plain_read : PySem.W.findIn K (.ref C_Plain) "read" = some (some (.ref f_Plain_read)))
    (fn_Plain_read : PySem.W.isFn K (.ref f_Plain_read) = true)
    (at_Plain_held : PySem.W.findIn K (.ref C_Plain) "held" = some (some (.ref f_Plain_held)))
    (fn_Plain_held : PySem.W.isFn K (.ref f_Plain_held) = true)
    (aC_Chip : PySem.W.nsIn K mainGlobals "Chip" = some (some (.ref C_Chip)))
    (pg_Chip : PySem.W.plainGet K C_Chip Str.empty = true) (hd_Chip : PySem.W.hasDictIn K C_Chip = true) (po_Chip : PySem.W.plainOver K C_Chip = true) (sa_Chip : PySem.W.findIn K (.ref C_Chip) "__setattr__" = some (some (.builtin "object.__setattr__")))
    (na_Chip_blocks : PySem.W.findIn K (.ref C_Chip) "blocks" = some none)
    (na_Chip_pages : PySem.W.findIn K (.ref C_Chip) "pages" = some none)
    (na_Chip_most : PySem.W.findIn K (.ref C_Chip) "most" = some none)
    (na_Chip_lasts : PySem.W.findIn K (.ref C_Chip) "lasts" = some none)
    (na_Chip_stuff : PySem.W.findIn K (.ref C_Chip) "stuff" = some none)
    (na_Chip_tried : PySem.W.findIn K (.ref C_Chip) "tried" = some none)
    (na_Chip_clearings : PySem.W.findIn K (.ref C_Chip) "clearings" = some none)
    (na_Chip_broken : PySem.W.findIn K (.ref C_Chip) "broken" = some none)
    (na_Chip_left : PySem.W.findIn K (.ref C_Chip) "left" = some none)
    (na_Chip_log : PySem.W.findIn K (.ref C_Chip) "log" = some none)
    (at_Chip_init : PySem.W.findIn K (.ref C_Chip) "__init__" = some (some (.ref f_Chip_init)))
    (fn_Chip_init : PySem.W.isFn K (.ref f_Chip_init) = true)
    (mi_Chip : PySem.W.makesIn K C_Chip = true) (kc_Chip : PySem.W.keepIn K (.ref C_Chip) = true)
    (at_Chip_need_page : PySem.W.findIn K (.ref C_Chip) "need_page" = some (some (.ref f_Chip_need_page)))
    (fn_Chip_need_page : PySem.W.isFn K (.ref f_Chip_need_page) = true)
    (at_Chip_need_block : PySem.W.findIn K (.ref C_Chip) "need_block" = some (some (.ref f_Chip_need_block)))
    (fn_Chip_need_block : PySem.W.isFn K (.ref f_Chip_need_block) = true)
    (at_Chip_need_power : PySem.W.findIn K (.ref C_Chip) "need_power" = some (some (.ref f_Chip_need_power)))
    (fn_Chip_need_power : PySem.W.isFn K (.ref f_Chip_need_power) = true)
    (at_Chip_need_good : PySem.W.findIn K (.ref C_Chip) "need_good" = some (some (.ref f_Chip_need_good)))
    (fn_Chip_need_good : PySem.W.isFn K (.ref f_Chip_need_good) = true)
    (at_Chip_goes_well : PySem.W.findIn K (.ref C_Chip) "goes_well" = some (some (.ref f_Chip_goes_well)))
    (fn_Chip_goes_well : PySem.W.isFn K (.ref f_Chip_goes_well) = true)
    (at_Chip_put : PySem.W.findIn K (.ref C_Chip) "put" = some (some (.ref f_Chip_put)))
    (fn_Chip_put : PySem.W.isFn K (.ref f_Chip_put) = true)
    (at_Chip_wipe : PySem.W.findIn K (.ref C_Chip) "wipe" = some (some (.ref f_Chip_wipe)))
    (fn_Chip_wipe : PySem.W.isFn K (.ref f_Chip_wipe) = true)
    (at_Chip_read : PySem.W.findIn K (.ref C_Chip) "read" = some (some (.ref f_Chip_read)))
    (fn_Chip_read : PySem.W.isFn K (.ref f_Chip_read) = true)
    (at_Chip_is_dark : PySem.W.findIn K (.ref C_Chip) "is_dark" = some (some (.ref f_Chip_is_dark)))
    (fn_Chip_is_dark : PySem.W.isFn K (.ref f_Chip_is_dark) = true)
    (at_Chip_cleared : PySem.W.findIn K (.ref C_Chip) "cleared" = some (some (.ref f_Chip_cleared)))
    (fn_Chip_cleared : PySem.W.isFn K (.ref f_Chip_cleared) = true)
    (at_Chip_failed : PySem.W.findIn K (.ref C_Chip) "failed" = some (some (.ref f_Chip_failed)))
    (fn_Chip_failed : PySem.W.isFn K (.ref f_Chip_failed) = true)
    (at_Chip_deeds : PySem.W.findIn K (.ref C_Chip) "deeds" = some (some (.ref f_Chip_deeds)))
    (fn_Chip_deeds : PySem.W.isFn K (.ref f_Chip_deeds) = true)
    (aC_Terms : PySem.W.nsIn K mainGlobals "Terms" = some (some (.ref C_Terms)))
    (pg_Terms : PySem.W.plainGet K C_Terms Str.empty = true) (hd_Terms : PySem.W.hasDictIn K C_Terms = true) (po_Terms : PySem.W.plainOver K C_Terms = true) (sa_Terms : PySem.W.findIn K (.ref C_Terms) "__setattr__" = some (some (.builtin "object.__setattr__")))
    (na_Terms_blocks : PySem.W.findIn K (.ref C_Terms) "blocks" = some none)
    (na_Terms_pages : PySem.W.findIn K (.ref C_Terms) "pages" = some none)
    (na_Terms_sheets : PySem.W.findIn K (.ref C_Terms) "sheets" = some none)
    (na_Terms_share : PySem.W.findIn K (.ref C_Terms) "share" = some none)
    (na_Terms_ill : PySem.W.findIn K (.ref C_Terms) "ill" = some none)
    (na_Terms_spread : PySem.W.findIn K (.ref C_Terms) "spread" = some none)
    (at_Terms_init : PySem.W.findIn K (.ref C_Terms) "__init__" = some (some (.ref f_Terms_init)))
    (fn_Terms_init : PySem.W.isFn K (.ref f_Terms_init) = true)
    (mi_Terms : PySem.W.makesIn K C_Terms = true) (kc_Terms : PySem.W.keepIn K (.ref C_Terms) = true)
    (at_Terms_closed : PySem.W.findIn K (.ref C_Terms) "closed" = some (some (.ref f_Terms_closed)))
    (fn_Terms_closed : PySem.W.isFn K (.ref f_Terms_closed) = true)
    (aC_WornError : PySem.W.nsIn K mainGlobals "WornError" = some (some (.ref C_WornError)))
    (xq_WornError : PySem.W.excIn K C_WornError [.type "ValueError", .type "Exception", .type "BaseException", .type "object"] "ValueError.__new__" = true) (xk_WornError : PySem.W.keepIn K (.ref C_WornError) = true) (xr_WornError : PySem.W.subIn K (.ref C_WornError) (.type "BaseException") = some true) (xt_WornError : PySem.W.typeIn K (.ref C_WornError) = some (.type "type"))
    (aC_NoChip : PySem.W.nsIn K mainGlobals "NoChip" = some (some (.ref C_NoChip)))
    (xq_NoChip : PySem.W.excIn K C_NoChip [.type "ValueError", .type "Exception", .type "BaseException", .type "object"] "ValueError.__new__" = true) (xk_NoChip : PySem.W.keepIn K (.ref C_NoChip) = true) (xr_NoChip : PySem.W.subIn K (.ref C_NoChip) (.type "BaseException") = some true) (xt_NoChip : PySem.W.typeIn K (.ref C_NoChip) = some (.type "type"))
    (aC_NoPlace : PySem.W.nsIn K mainGlobals "NoPlace" = some (some (.ref C_NoPlace)))
    (xq_NoPlace : PySem.W.excIn K C_NoPlace [.type "ValueError", .type "Exception", .type "BaseException", .type "object"] "ValueError.__new__" = true) (xk_NoPlace : PySem.W.keepIn K (.ref C_NoPlace) = true) (xr_NoPlace : PySem.W.subIn K (.ref C_NoPlace) (.type "BaseException") = some true) (xt_NoPlace : PySem.W.typeIn K (.ref C_NoPlace) = some (.type "type"))
    (aC_PowerGone : PySem.W.nsIn K mainGlobals "PowerGone" = some (some (.ref C_PowerGone)))
    (xq_PowerGone : PySem.W.excIn K C_PowerGone [.type "ValueError", .type "Exception", .type "BaseException", .type "object"] "ValueError.__new__" = true) (xk_PowerGone : PySem.W.keepIn K (.ref C_PowerGone) = true) (xr_PowerGone : PySem.W.subIn K (.ref C_PowerGone) (.type "BaseException") = some true) (xt_PowerGone : PySem.W.typeIn K (.ref C_PowerGone) = some (.type "type"))
    (aC_BlockFailed : PySem.W.nsIn K mainGlobals "BlockFailed" = some (some (.ref C_BlockFailed)))
    (xl_BlockFailed : K.lookup C_BlockFailed = some (excClassObj nm_BlockFailed q_BlockFailed C_BlockFailed N_BlockFailed bs_BlockFailed bm_BlockFailed true sn_BlockFailed sub_BlockFailed ab_BlockFailed col_BlockFailed dd_BlockFailed k0_BlockFailed k1_BlockFailed k2_BlockFailed k3_BlockFailed k5_BlockFailed "ValueError.__new__")) (rv_BlockFailed : PySem.HandSPX.refsVE bm_BlockFailed = true)
    (xs_BlockFailed : PySem.W.findIn K (.ref C_BlockFailed) "__setattr__" = some (some (.builtin "object.__setattr__"))) (xr_BlockFailed : PySem.W.subIn K (.ref C_BlockFailed) (.type "BaseException") = some true) (xy_BlockFailed : PySem.W.typeIn K (.ref C_BlockFailed) = some (.type "type")) (xk_BlockFailed : PySem.W.keepIn K (.ref C_BlockFailed) = true)
    (xi_BlockFailed : PySem.W.findIn K (.ref C_BlockFailed) "__init__" = some (some (.ref f_BlockFailed_init))) (xt_BlockFailed : PySem.W.typeIn K (.ref f_BlockFailed_init) = some (.type "function")) (xf_BlockFailed : xfB K C_BlockFailed = true)
    (nx_BlockFailed_block : PySem.W.findIn K (.ref C_BlockFailed) "block" = some none)
    (aC_NotClear : PySem.W.nsIn K mainGlobals "NotClear" = some (some (.ref C_NotClear)))
    (xl_NotClear : K.lookup C_NotClear = some (excClassObj nm_NotClear q_NotClear C_NotClear N_NotClear bs_NotClear bm_NotClear true sn_NotClear sub_NotClear ab_NotClear col_NotClear dd_NotClear k0_NotClear k1_NotClear k2_NotClear k3_NotClear k5_NotClear "ValueError.__new__")) (rv_NotClear : PySem.HandSPX.refsVE bm_NotClear = true)
    (xs_NotClear : PySem.W.findIn K (.ref C_NotClear) "__setattr__" = some (some (.builtin "object.__setattr__"))) (xr_NotClear : PySem.W.subIn K (.ref C_NotClear) (.type "BaseException") = some true) (xy_NotClear : PySem.W.typeIn K (.ref C_NotClear) = some (.type "type")) (xk_NotClear : PySem.W.keepIn K (.ref C_NotClear) = true)
    (xi_NotClear : PySem.W.findIn K (.ref C_NotClear) "__init__" = some (some (.ref f_NotClear_init))) (xt_NotClear : PySem.W.typeIn K (.ref f_NotClear_init) = some (.type "function")) (xf_NotClear : xfB K C_NotClear = true)
    (nx_NotClear_page : PySem.W.findIn K (.ref C_NotClear) "page" = some none)
    (aC_NoTerms : PySem.W.nsIn K mainGlobals "NoTerms" = some (some (.ref C_NoTerms)))
    (xq_NoTerms : PySem.W.excIn K C_NoTerms [.type "ValueError", .type "Exception", .type "BaseException", .type "object"] "ValueError.__new__" = true) (xk_NoTerms : PySem.W.keepIn K (.ref C_NoTerms) = true) (xr_NoTerms : PySem.W.subIn K (.ref C_NoTerms) (.type "BaseException") = some true) (xt_NoTerms : PySem.W.typeIn K (.ref C_NoTerms) = some (.type "type"))
    (aC_NoSheet : PySem.W.nsIn K mainGlobals "NoSheet" = some (some (.ref C_NoSheet)))
    (xq_NoSheet : PySem.W.excIn K C_NoSheet [.type "ValueError", .type "Exception", .type "BaseException", .type "object"] "ValueError.__new__" = true) (xk_NoSheet : PySem.W.keepIn K (.ref C_NoSheet) = true) (xr_NoSheet : PySem.W.subIn K (.ref C_NoSheet) (.type "BaseException") = some true) (xt_NoSheet : PySem.W.typeIn K (.ref C_NoSheet) = some (.type "type"))
    (aC_NoValue : PySem.W.nsIn K mainGlobals "NoValue" = some (some (.ref C_NoValue)))
    (xq_NoValue : PySem.W.excIn K C_NoValue [.type "ValueError", .type "Exception", .type "BaseException", .type "object"] "ValueError.__new__" = true) (xk_NoValue : PySem.W.keepIn K (.ref C_NoValue) = true) (xr_NoValue : PySem.W.subIn K (.ref C_NoValue) (.type "BaseException") = some true) (xt_NoValue : PySem.W.typeIn K (.ref C_NoValue) = some (.type "type"))
    (aC_Full : PySem.W.nsIn K mainGlobals "Full" = some (some (.ref C_Full)))
    (xq_Full : PySem.W.excIn K C_Full [.type "ValueError", .type "Exception", .type "BaseException", .type "object"] "ValueError.__new__" = true) (xk_Full : PySem.W.keepIn K (.ref C_Full) = true) (xr_Full : PySem.W.subIn K (.ref C_Full) (.type "BaseException") = some true) (xt_Full : PySem.W.typeIn K (.ref C_Full) = some (.type "type"))
    (aC_NoRoom : PySem.W.nsIn K mainGlobals "NoRoom" = some (some (.ref C_NoRoom)))
    (xq_NoRoom : PySem.W.excIn K C_NoRoom [.type "ValueError", .type "Exception", .type "BaseException", .type "object"] "ValueError.__new__" = true) (xk_NoRoom : PySem.W.keepIn K (.ref C_NoRoom) = true) (xr_NoRoom : PySem.W.subIn K (.ref C_NoRoom) (.type "BaseException") = some true) (xt_NoRoom : PySem.W.typeIn K (.ref C_NoRoom) = some (.type "type"))
    (wa_WornError : PySem.W.specialIn K (.ref C_WornError) "__getattribute__" = some (some (.builtin "type.__getattribute__"))) (wr_WornError : PySem.W.readsIn K C_WornError (.type "type") = true) (wf_WornError : PySem.W.findCls K (.ref C_WornError) (.type "type") "__init__" = some (.val (.builtin "ValueError.__init__")))
    (em_NoTerms_BlockFailed : PySem.W.exmOne K (.ref C_NoTerms) (.ref C_BlockFailed) = some false)
    (em_NoTerms_NoRoom : PySem.W.exmOne K (.ref C_NoTerms) (.ref C_NoRoom) = some false)
    (em_NoRoom_BlockFailed : PySem.W.exmOne K (.ref C_NoRoom) (.ref C_BlockFailed) = some false)
    (em_NoRoom_NoRoom : PySem.W.exmOne K (.ref C_NoRoom) (.ref C_NoRoom) = some true)
    (em_NoSheet_BlockFailed : PySem.W.exmOne K (.ref C_NoSheet) (.ref C_BlockFailed) = some false)
    (em_NoSheet_NoRoom : PySem.W.exmOne K (.ref C_NoSheet) (.ref C_NoRoom) = some false)
    (em_NoValue_BlockFailed : PySem.W.exmOne K (.ref C_NoValue) (.ref C_BlockFailed) = some false)
    (em_NoValue_NoRoom : PySem.W.exmOne K (.ref C_NoValue) (.ref C_NoRoom) = some false)
    (em_Full_BlockFailed : PySem.W.exmOne K (.ref C_Full) (.ref C_BlockFailed) = some false)
    (em_Full_NoRoom : PySem.W.exmOne K (.ref C_Full) (.ref C_NoRoom) = some false)
    (em_NoChip_BlockFailed : PySem.W.exmOne K (.ref C_NoChip) (.ref C_BlockFailed) = some false)
    (em_NoChip_NoRoom : PySem.W.exmOne K (.ref C_NoChip) (.ref C_NoRoom) = some false)
    (em_NoPlace_BlockFailed : PySem.W.exmOne K (.ref C_NoPlace) (.ref C_BlockFailed) = some false)
    (em_NoPlace_NoRoom : PySem.W.exmOne K (.ref C_NoPlace) (.ref C_NoRoom) = some false)
    (em_PowerGone_BlockFailed : PySem.W.exmOne K (.ref C_PowerGone) (.ref C_BlockFailed) = some false)
    (em_PowerGone_NoRoom : PySem.W.exmOne K (.ref C_PowerGone) (.ref C_NoRoom) = some false)
    (em_BlockFailed_BlockFailed : PySem.W.exmOne K (.ref C_BlockFailed) (.ref C_BlockFailed) = some true)
    (em_BlockFailed_NoRoom : PySem.W.exmOne K (.ref C_BlockFailed) (.ref C_NoRoom) = some false)
    (em_NotClear_BlockFailed : PySem.W.exmOne K (.ref C_NotClear) (.ref C_BlockFailed) = some false)
    (em_NotClear_NoRoom : PySem.W.exmOne K (.ref C_NotClear) (.ref C_NoRoom) = some false)
    (z_len : PySem.W.nsIn K mainGlobals "len" = some none)
    (z_isinstance : PySem.W.nsIn K mainGlobals "isinstance" = some none)
    (z_sorted : PySem.W.nsIn K mainGlobals "sorted" = some none)
    (z_int : PySem.W.nsIn K mainGlobals "int" = some none)
    (z_str : PySem.W.nsIn K mainGlobals "str" = some none)
    (z_list : PySem.W.nsIn K mainGlobals "list" = some none)
    (z_tuple : PySem.W.nsIn K mainGlobals "tuple" = some none)
    (z_bool : PySem.W.nsIn K mainGlobals "bool" = some none)
    (z_range : PySem.W.nsIn K mainGlobals "range" = some none)
    (z_ValueError : PySem.W.nsIn K mainGlobals "ValueError" = some none)
    (v_ROLL : PySem.W.nsIn K mainGlobals "ROLL" = some (some (Value.int (64) t_ROLL)))
    (v_MANY : PySem.W.nsIn K mainGlobals "MANY" = some (some (Value.int (16) t_MANY)))
    (v_MOST : PySem.W.nsIn K mainGlobals "MOST" = some (some (Value.int (1000000) t_MOST))) :
    ∃ fd : FuncData, (∀ (s : Shared) (v : Value), BindsTo s fd ⟨[v], []⟩ [("_law_script", v)]) ∧ ∀ base : Heap, K.In base → base.Ns mainGlobals mg → FnOk l.prog w K mg base (L2.CX l.prog w) 12 fa fd ["_law_script"] (spLaw K) := by
  have e := hfa.symm.trans (PySem.W.mg_of X G a_law)
  cases e
  have F_mark_of := fun_mk (st := s_mark_of) l_mark_of c_mark_of k_mark_of
  have b_mark_of := F_mark_of.binds (ps := ["stamp", "name"]) fun _ _ _ _ _ _ us hl => match us, hl with | [_, _], _ => rfl
  have F_Book_init := fun_mk (st := s_Book_init) l_Book_init c_Book_init k_Book_init
  have b_Book_init := F_Book_init.binds (ps := ["self", "blocks", "pages"]) fun _ _ _ _ _ _ us hl => match us, hl with | [_, _, _], _ => rfl
  have F_Book_mark := fun_mk (st := s_Book_mark) l_Book_mark c_Book_mark k_Book_mark
  have b_Book_mark := F_Book_mark.binds (ps := ["self", "name"]) fun _ _ _ _ _ _ us hl => match us, hl with | [_, _], _ => rfl
  have F_Book_note := fun_mk (st := s_Book_note) l_Book_note c_Book_note k_Book_note
  have b_Book_note := F_Book_note.binds (ps := ["self", "page", "name"]) fun _ _ _ _ _ _ us hl => match us, hl with | [_, _, _], _ => rfl
  have F_Book_forget := fun_mk (st := s_Book_forget) l_Book_forget c_Book_forget k_Book_forget
  have b_Book_forget := F_Book_forget.binds (ps := ["self", "name"]) fun _ _ _ _ _ _ us hl => match us, hl with | [_, _], _ => rfl
  have F_Book_held := fun_mk (st := s_Book_held) l_Book_held c_Book_held k_Book_held
  have b_Book_held := F_Book_held.binds (ps := ["self"]) fun _ _ _ _ _ _ us hl => match us, hl with | [_], _ => rfl
  have F_Book_tell := fun_mk (st := s_Book_tell) l_Book_tell c_Book_tell k_Book_tell
  have b_Book_tell := F_Book_tell.binds (ps := ["self"]) fun _ _ _ _ _ _ us hl => match us, hl with | [_], _ => rfl
  have F_BlockFailed_init := fun_mk (st := s_BlockFailed_init) l_BlockFailed_init c_BlockFailed_init k_BlockFailed_init
  have b_BlockFailed_init := F_BlockFailed_init.binds (ps := ["self", "block"]) fun _ _ _ _ _ _ us hl => match us, hl with | [_, _], _ => rfl
  have F_NotClear_init := fun_mk (st := s_NotClear_init) l_NotClear_init c_NotClear_init k_NotClear_init
  have b_NotClear_init := F_NotClear_init.binds (ps := ["self", "page"]) fun _ _ _ _ _ _ us hl => match us, hl with | [_, _], _ => rfl
  have F_is_whole := fun_mk (st := s_is_whole) l_is_whole c_is_whole k_is_whole
  have b_is_whole := F_is_whole.binds (ps := ["thing"]) fun _ _ _ _ _ _ us hl => match us, hl with | [_], _ => rfl
  have F_is_within := fun_mk (st := s_is_within) l_is_within c_is_within k_is_within
  have b_is_within := F_is_within.binds (ps := ["thing", "low", "high"]) fun _ _ _ _ _ _ us hl => match us, hl with | [_, _, _], _ => rfl
  have F_Plain_init := fun_mk (st := s_Plain_init) l_Plain_init c_Plain_init k_Plain_init
  have b_Plain_init := F_Plain_init.binds (ps := ["self", "chip", "terms"]) fun _ _ _ _ _ _ us hl => match us, hl with | [_, _, _], _ => rfl
  have F_Plain_good := fun_mk (st := s_Plain_good) l_Plain_good c_Plain_good k_Plain_good
  have b_Plain_good := F_Plain_good.binds (ps := ["self"]) fun _ _ _ _ _ _ us hl => match us, hl with | [_], _ => rfl
  have F_Plain_free := fun_mk (st := s_Plain_free) l_Plain_free c_Plain_free k_Plain_free
  have b_Plain_free := F_Plain_free.binds (ps := ["self"]) fun _ _ _ _ _ _ us hl => match us, hl with | [_], _ => rfl
  have F_Plain_part := fun_mk (st := s_Plain_part) l_Plain_part c_Plain_part k_Plain_part
  have b_Plain_part := F_Plain_part.binds (ps := ["self"]) fun _ _ _ _ _ _ us hl => match us, hl with | [_], _ => rfl
  have F_Plain_spot := fun_mk (st := s_Plain_spot) l_Plain_spot c_Plain_spot k_Plain_spot
  have b_Plain_spot := F_Plain_spot.binds (ps := ["self"]) fun _ _ _ _ _ _ us hl => match us, hl with | [_], _ => rfl
  have F_Plain_reserve := fun_mk (st := s_Plain_reserve) l_Plain_reserve c_Plain_reserve k_Plain_reserve
  have b_Plain_reserve := F_Plain_reserve.binds (ps := ["self"]) fun _ _ _ _ _ _ us hl => match us, hl with | [_], _ => rfl
  have F_Plain_ready := fun_mk (st := s_Plain_ready) l_Plain_ready c_Plain_ready k_Plain_ready
  have b_Plain_ready := F_Plain_ready.binds (ps := ["self"]) fun _ _ _ _ _ _ us hl => match us, hl with | [_], _ => rfl
  have F_Plain_make_ready := fun_mk (st := s_Plain_make_ready) l_Plain_make_ready c_Plain_make_ready k_Plain_make_ready
  have b_Plain_make_ready := F_Plain_make_ready.binds (ps := ["self"]) fun _ _ _ _ _ _ us hl => match us, hl with | [_], _ => rfl
  have F_Plain_set_down := fun_mk (st := s_Plain_set_down) l_Plain_set_down c_Plain_set_down k_Plain_set_down
  have b_Plain_set_down := F_Plain_set_down.binds (ps := ["self", "name", "value"]) fun _ _ _ _ _ _ us hl => match us, hl with | [_, _, _], _ => rfl
  have F_Plain_lay := fun_mk (st := s_Plain_lay) l_Plain_lay c_Plain_lay k_Plain_lay
  have b_Plain_lay := F_Plain_lay.binds (ps := ["self", "name", "value"]) fun _ _ _ _ _ _ us hl => match us, hl with | [_, _, _], _ => rfl
  have F_Plain_need_sheet := fun_mk (st := s_Plain_need_sheet) l_Plain_need_sheet c_Plain_need_sheet k_Plain_need_sheet
  have b_Plain_need_sheet := F_Plain_need_sheet.binds (ps := ["self", "sheet"]) fun _ _ _ _ _ _ us hl => match us, hl with | [_, _], _ => rfl
  have F_Plain_write := fun_mk (st := s_Plain_write) l_Plain_write c_Plain_write k_Plain_write
  have b_Plain_write := F_Plain_write.binds (ps := ["self", "sheet", "value"]) fun _ _ _ _ _ _ us hl => match us, hl with | [_, _, _], _ => rfl
  have F_Plain_read := fun_mk (st := s_Plain_read) l_Plain_read c_Plain_read k_Plain_read
  have b_Plain_read := F_Plain_read.binds (ps := ["self", "sheet"]) fun _ _ _ _ _ _ us hl => match us, hl with | [_, _], _ => rfl
  have F_Plain_held := fun_mk (st := s_Plain_held) l_Plain_held c_Plain_held k_Plain_held
  have b_Plain_held := F_Plain_held.binds (ps := ["self"]) fun _ _ _ _ _ _ us hl => match us, hl with | [_], _ => rfl
  have F_endurance := fun_mk (st := s_endurance) l_endurance c_endurance k_endurance
  have b_endurance := F_endurance.binds (ps := ["blocks", "ills"]) fun _ _ _ _ _ _ us hl => match us, hl with | [_, _], _ => rfl
  have F_Chip_init : FunD K "__init__" "Chip.__init__" (defArgs s_Chip_init) (defBody s_Chip_init) (defScope s_Chip_init) dfl_Chip_init [] f_Chip_init _ := ⟨⟨_, _, _, _, _, _, _, _, _, _, rfl, l_Chip_init, c_Chip_init, He.dflB_ok df_Chip_init, .inl rfl⟩, k_Chip_init⟩
  obtain ⟨ds0_Chip_init, dv0_Chip_init, bd0_Chip_init⟩ := F_Chip_init.binds1 (ps := ["self", "blocks", "pages", "most", "ills"]) 5 2 (fun z => by cases z) (by rfl) fun T kV doc pm an cdv ct us its h1 h2 => match us, its, h1, h2 with | [_, _, _, _, _], [_, _], _, _ => ⟨_, rfl, rfl⟩
  obtain ⟨ds2_Chip_init, dv2_Chip_init, bd2_Chip_init⟩ := F_Chip_init.binds1 (ps := ["self", "blocks", "pages", "most", "ills"]) 3 0 (fun z => by cases z) (by rfl) fun T kV doc pm an cdv ct us its h1 h2 => match us, its, h1, h2 with | [_, _, _], [_, _], _, _ => ⟨_, rfl, rfl⟩
  have F_Chip_need_page := fun_mk (st := s_Chip_need_page) l_Chip_need_page c_Chip_need_page k_Chip_need_page
  have b_Chip_need_page := F_Chip_need_page.binds (ps := ["self", "page"]) fun _ _ _ _ _ _ us hl => match us, hl with | [_, _], _ => rfl
  have F_Chip_need_block := fun_mk (st := s_Chip_need_block) l_Chip_need_block c_Chip_need_block k_Chip_need_block
  have b_Chip_need_block := F_Chip_need_block.binds (ps := ["self", "block"]) fun _ _ _ _ _ _ us hl => match us, hl with | [_, _], _ => rfl
  have F_Chip_need_power := fun_mk (st := s_Chip_need_power) l_Chip_need_power c_Chip_need_power k_Chip_need_power
  have b_Chip_need_power := F_Chip_need_power.binds (ps := ["self"]) fun _ _ _ _ _ _ us hl => match us, hl with | [_], _ => rfl
  have F_Chip_need_good := fun_mk (st := s_Chip_need_good) l_Chip_need_good c_Chip_need_good k_Chip_need_good
  have b_Chip_need_good := F_Chip_need_good.binds (ps := ["self", "block"]) fun _ _ _ _ _ _ us hl => match us, hl with | [_, _], _ => rfl
  have F_Chip_goes_well := fun_mk (st := s_Chip_goes_well) l_Chip_goes_well c_Chip_goes_well k_Chip_goes_well
  have b_Chip_goes_well := F_Chip_goes_well.binds (ps := ["self", "block", "worn"]) fun _ _ _ _ _ _ us hl => match us, hl with | [_, _, _], _ => rfl
  have F_Chip_put := fun_mk (st := s_Chip_put) l_Chip_put c_Chip_put k_Chip_put
  have b_Chip_put := F_Chip_put.binds (ps := ["self", "page", "stuff"]) fun _ _ _ _ _ _ us hl => match us, hl with | [_, _, _], _ => rfl
  have F_Chip_wipe := fun_mk (st := s_Chip_wipe) l_Chip_wipe c_Chip_wipe k_Chip_wipe
  have b_Chip_wipe := F_Chip_wipe.binds (ps := ["self", "block"]) fun _ _ _ _ _ _ us hl => match us, hl with | [_, _], _ => rfl
  have F_Chip_read := fun_mk (st := s_Chip_read) l_Chip_read c_Chip_read k_Chip_read
  have b_Chip_read := F_Chip_read.binds (ps := ["self", "page"]) fun _ _ _ _ _ _ us hl => match us, hl with | [_, _], _ => rfl
  have F_Chip_is_dark := fun_mk (st := s_Chip_is_dark) l_Chip_is_dark c_Chip_is_dark k_Chip_is_dark
  have b_Chip_is_dark := F_Chip_is_dark.binds (ps := ["self"]) fun _ _ _ _ _ _ us hl => match us, hl with | [_], _ => rfl
  have F_Chip_cleared := fun_mk (st := s_Chip_cleared) l_Chip_cleared c_Chip_cleared k_Chip_cleared
  have b_Chip_cleared := F_Chip_cleared.binds (ps := ["self", "block"]) fun _ _ _ _ _ _ us hl => match us, hl with | [_, _], _ => rfl
  have F_Chip_failed := fun_mk (st := s_Chip_failed) l_Chip_failed c_Chip_failed k_Chip_failed
  have b_Chip_failed := F_Chip_failed.binds (ps := ["self", "block"]) fun _ _ _ _ _ _ us hl => match us, hl with | [_, _], _ => rfl
  have F_Chip_deeds := fun_mk (st := s_Chip_deeds) l_Chip_deeds c_Chip_deeds k_Chip_deeds
  have b_Chip_deeds := F_Chip_deeds.binds (ps := ["self"]) fun _ _ _ _ _ _ us hl => match us, hl with | [_], _ => rfl
  have F_Terms_init : FunD K "__init__" "Terms.__init__" (defArgs s_Terms_init) (defBody s_Terms_init) (defScope s_Terms_init) dfl_Terms_init [] f_Terms_init _ := ⟨⟨_, _, _, _, _, _, _, _, _, _, rfl, l_Terms_init, c_Terms_init, He.dflB_ok df_Terms_init, .inl rfl⟩, k_Terms_init⟩
  obtain ⟨ds1_Terms_init, dv1_Terms_init, bd1_Terms_init⟩ := F_Terms_init.binds1 (ps := ["self", "blocks", "pages", "sheets", "share", "ill", "spread"]) 6 1 (fun z => by cases z) (by rfl) fun T kV doc pm an cdv ct us its h1 h2 => match us, its, h1, h2 with | [_, _, _, _, _, _], [_, _], _, _ => ⟨_, rfl, rfl⟩
  have F_Terms_closed := fun_mk (st := s_Terms_closed) l_Terms_closed c_Terms_closed k_Terms_closed
  have b_Terms_closed := F_Terms_closed.binds (ps := ["self"]) fun _ _ _ _ _ _ us hl => match us, hl with | [_], _ => rfl
  have F__law_cell_at := fun_mk (st := s__law_cell_at) l__law_cell_at c__law_cell_at k__law_cell_at
  have b__law_cell_at := F__law_cell_at.binds (ps := ["_law_script", "_law_k"]) fun _ _ _ _ _ _ us hl => match us, hl with | [_, _], _ => rfl
  have F__law_whole := fun_mk (st := s__law_whole) l__law_whole c__law_whole k__law_whole
  have b__law_whole := F__law_whole.binds (ps := ["_law_found"]) fun _ _ _ _ _ _ us hl => match us, hl with | [_], _ => rfl
  have F__law_numbers := fun_mk (st := s__law_numbers) l__law_numbers c__law_numbers k__law_numbers
  have b__law_numbers := F__law_numbers.binds (ps := ["_law_found", "_law_due"]) fun _ _ _ _ _ _ us hl => match us, hl with | [_, _], _ => rfl
  have F__law_same := fun_mk (st := s__law_same) l__law_same c__law_same k__law_same
  have b__law_same := F__law_same.binds (ps := ["_law_found", "_law_due"]) fun _ _ _ _ _ _ us hl => match us, hl with | [_, _], _ => rfl
  have F__law_done := fun_mk (st := s__law_done) l__law_done c__law_done k__law_done
  have b__law_done := F__law_done.binds (ps := ["_law_mine", "_law_block"]) fun _ _ _ _ _ _ us hl => match us, hl with | [_, _], _ => rfl
  have F__law_wiped := fun_mk (st := s__law_wiped) l__law_wiped c__law_wiped k__law_wiped
  have b__law_wiped := F__law_wiped.binds (ps := ["_law_chip", "_law_mine", "_law_block"]) fun _ _ _ _ _ _ us hl => match us, hl with | [_, _, _], _ => rfl
  have F__law_good := fun_mk (st := s__law_good) l__law_good c__law_good k__law_good
  have b__law_good := F__law_good.binds (ps := ["_law_mine"]) fun _ _ _ _ _ _ us hl => match us, hl with | [_], _ => rfl
  have F__law_free := fun_mk (st := s__law_free) l__law_free c__law_free k__law_free
  have b__law_free := F__law_free.binds (ps := ["_law_mine"]) fun _ _ _ _ _ _ us hl => match us, hl with | [_], _ => rfl
  have F__law_part := fun_mk (st := s__law_part) l__law_part c__law_part k__law_part
  have b__law_part := F__law_part.binds (ps := ["_law_mine"]) fun _ _ _ _ _ _ us hl => match us, hl with | [_], _ => rfl
  have F__law_spot := fun_mk (st := s__law_spot) l__law_spot c__law_spot k__law_spot
  have b__law_spot := F__law_spot.binds (ps := ["_law_mine"]) fun _ _ _ _ _ _ us hl => match us, hl with | [_], _ => rfl
  have F__law_asks := fun_mk (st := s__law_asks) l__law_asks c__law_asks k__law_asks
  have b__law_asks := F__law_asks.binds (ps := ["_law_store", "_law_mine"]) fun _ _ _ _ _ _ us hl => match us, hl with | [_, _], _ => rfl
  have F__law_set := fun_mk (st := s__law_set) l__law_set c__law_set k__law_set
  have b__law_set := F__law_set.binds (ps := ["_law_store", "_law_name", "_law_number"]) fun _ _ _ _ _ _ us hl => match us, hl with | [_, _, _], _ => rfl
  have F__law_unready := fun_mk (st := s__law_unready) l__law_unready c__law_unready k__law_unready
  have b__law_unready := F__law_unready.binds (ps := ["_law_store"]) fun _ _ _ _ _ _ us hl => match us, hl with | [_], _ => rfl
  have F__law_step := fun_mk (st := s__law_step) l__law_step c__law_step k__law_step
  have b__law_step := F__law_step.binds (ps := ["_law_store", "_law_mine", "_law_cell"]) fun _ _ _ _ _ _ us hl => match us, hl with | [_, _, _], _ => rfl
  have F__law_lies := fun_mk (st := s__law_lies) l__law_lies c__law_lies k__law_lies
  have b__law_lies := F__law_lies.binds (ps := ["_law_chip", "_law_row"]) fun _ _ _ _ _ _ us hl => match us, hl with | [_, _], _ => rfl
  have F_law := fun_mk (st := s_law) l_law c_law k_law
  have b_law := F_law.binds (ps := ["_law_script"]) fun _ _ _ _ _ _ us hl => match us, hl with | [_], _ => rfl
  have xo_BlockFailed : OexC K C_BlockFailed := ⟨⟨_, _, _, _, _, _, _, _, _, _, _, _, _, _, _, xl_BlockFailed, rv_BlockFailed⟩, xs_BlockFailed, xr_BlockFailed, xy_BlockFailed, xk_BlockFailed⟩
  have xo_NotClear : OexC K C_NotClear := ⟨⟨_, _, _, _, _, _, _, _, _, _, _, _, _, _, _, xl_NotClear, rv_NotClear⟩, xs_NotClear, xr_NotClear, xy_NotClear, xk_NotClear⟩
  let T : Txt K mg := {
    a_mark_of := f_mark_of
    fd_mark_of := _
    F_mark_of := F_mark_of
    bd_mark_of := b_mark_of
    k_mark_of := k_mark_of
    g_mark_of := PySem.W.mg_of X G a_mark_of
    a_Book_init := f_Book_init
    fd_Book_init := _
    F_Book_init := F_Book_init
    bd_Book_init := b_Book_init
    k_Book_init := k_Book_init
    a_Book_mark := f_Book_mark
    fd_Book_mark := _
    F_Book_mark := F_Book_mark
    bd_Book_mark := b_Book_mark
    k_Book_mark := k_Book_mark
    a_Book_note := f_Book_note
    fd_Book_note := _
    F_Book_note := F_Book_note
    bd_Book_note := b_Book_note
    k_Book_note := k_Book_note
    a_Book_forget := f_Book_forget
    fd_Book_forget := _
    F_Book_forget := F_Book_forget
    bd_Book_forget := b_Book_forget
    k_Book_forget := k_Book_forget
    a_Book_held := f_Book_held
    fd_Book_held := _
    F_Book_held := F_Book_held
    bd_Book_held := b_Book_held
    k_Book_held := k_Book_held
    a_Book_tell := f_Book_tell
    fd_Book_tell := _
    F_Book_tell := F_Book_tell
    bd_Book_tell := b_Book_tell
    k_Book_tell := k_Book_tell
    a_BlockFailed_init := f_BlockFailed_init
    fd_BlockFailed_init := _
    F_BlockFailed_init := F_BlockFailed_init
    bd_BlockFailed_init := b_BlockFailed_init
    k_BlockFailed_init := k_BlockFailed_init
    a_NotClear_init := f_NotClear_init
    fd_NotClear_init := _
    F_NotClear_init := F_NotClear_init
    bd_NotClear_init := b_NotClear_init
    k_NotClear_init := k_NotClear_init
    a_is_whole := f_is_whole
    fd_is_whole := _
    F_is_whole := F_is_whole
    bd_is_whole := b_is_whole
    k_is_whole := k_is_whole
    g_is_whole := PySem.W.mg_of X G a_is_whole
    a_is_within := f_is_within
    fd_is_within := _
    F_is_within := F_is_within
    bd_is_within := b_is_within
    k_is_within := k_is_within
    g_is_within := PySem.W.mg_of X G a_is_within
    a_Plain_init := f_Plain_init
    fd_Plain_init := _
    F_Plain_init := F_Plain_init
    bd_Plain_init := b_Plain_init
    k_Plain_init := k_Plain_init
    a_Plain_good := f_Plain_good
    fd_Plain_good := _
    F_Plain_good := F_Plain_good
    bd_Plain_good := b_Plain_good
    k_Plain_good := k_Plain_good
    a_Plain_free := f_Plain_free
    fd_Plain_free := _
    F_Plain_free := F_Plain_free
    bd_Plain_free := b_Plain_free
    k_Plain_free := k_Plain_free
    a_Plain_part := f_Plain_part
    fd_Plain_part := _
    F_Plain_part := F_Plain_part
    bd_Plain_part := b_Plain_part
    k_Plain_part := k_Plain_part
    a_Plain_spot := f_Plain_spot
    fd_Plain_spot := _
    F_Plain_spot := F_Plain_spot
    bd_Plain_spot := b_Plain_spot
    k_Plain_spot := k_Plain_spot
    a_Plain_reserve := f_Plain_reserve
    fd_Plain_reserve := _
    F_Plain_reserve := F_Plain_reserve
    bd_Plain_reserve := b_Plain_reserve
    k_Plain_reserve := k_Plain_reserve
    a_Plain_ready := f_Plain_ready
    fd_Plain_ready := _
    F_Plain_ready := F_Plain_ready
    bd_Plain_ready := b_Plain_ready
    k_Plain_ready := k_Plain_ready
    a_Plain_make_ready := f_Plain_make_ready
    fd_Plain_make_ready := _
    F_Plain_make_ready := F_Plain_make_ready
    bd_Plain_make_ready := b_Plain_make_ready
    k_Plain_make_ready := k_Plain_make_ready
    a_Plain_set_down := f_Plain_set_down
    fd_Plain_set_down := _
    F_Plain_set_down := F_Plain_set_down
    bd_Plain_set_down := b_Plain_set_down
    k_Plain_set_down := k_Plain_set_down
    a_Plain_lay := f_Plain_lay
    fd_Plain_lay := _
    F_Plain_lay := F_Plain_lay
    bd_Plain_lay := b_Plain_lay
    k_Plain_lay := k_Plain_lay
    a_Plain_need_sheet := f_Plain_need_sheet
    fd_Plain_need_sheet := _
    F_Plain_need_sheet := F_Plain_need_sheet
    bd_Plain_need_sheet := b_Plain_need_sheet
    k_Plain_need_sheet := k_Plain_need_sheet
    a_Plain_write := f_Plain_write
    fd_Plain_write := _
    F_Plain_write := F_Plain_write
    bd_Plain_write := b_Plain_write
    k_Plain_write := k_Plain_write
    a_Plain_read := f_Plain_read
    fd_Plain_read := _
    F_Plain_read := F_Plain_read
    bd_Plain_read := b_Plain_read
    k_Plain_read := k_Plain_read
    a_Plain_held := f_Plain_held
    fd_Plain_held := _
    F_Plain_held := F_Plain_held
    bd_Plain_held := b_Plain_held
    k_Plain_held := k_Plain_held
    a_endurance := f_endurance
    fd_endurance := _
    F_endurance := F_endurance
    bd_endurance := b_endurance
    k_endurance := k_endurance
    g_endurance := PySem.W.mg_of X G a_endurance
    a_Chip_init := f_Chip_init
    fd_Chip_init := _
    F_Chip_init := F_Chip_init
    k_Chip_init := k_Chip_init
    ds0_Chip_init := ds0_Chip_init, dv0_Chip_init := dv0_Chip_init, bd0_Chip_init := bd0_Chip_init
    ds2_Chip_init := ds2_Chip_init, dv2_Chip_init := dv2_Chip_init, bd2_Chip_init := bd2_Chip_init
    a_Chip_need_page := f_Chip_need_page
    fd_Chip_need_page := _
    F_Chip_need_page := F_Chip_need_page
    bd_Chip_need_page := b_Chip_need_page
    k_Chip_need_page := k_Chip_need_page
    a_Chip_need_block := f_Chip_need_block
    fd_Chip_need_block := _
    F_Chip_need_block := F_Chip_need_block
    bd_Chip_need_block := b_Chip_need_block
    k_Chip_need_block := k_Chip_need_block
    a_Chip_need_power := f_Chip_need_power
    fd_Chip_need_power := _
    F_Chip_need_power := F_Chip_need_power
    bd_Chip_need_power := b_Chip_need_power
    k_Chip_need_power := k_Chip_need_power
    a_Chip_need_good := f_Chip_need_good
    fd_Chip_need_good := _
    F_Chip_need_good := F_Chip_need_good
    bd_Chip_need_good := b_Chip_need_good
    k_Chip_need_good := k_Chip_need_good
    a_Chip_goes_well := f_Chip_goes_well
    fd_Chip_goes_well := _
    F_Chip_goes_well := F_Chip_goes_well
    bd_Chip_goes_well := b_Chip_goes_well
    k_Chip_goes_well := k_Chip_goes_well
    a_Chip_put := f_Chip_put
    fd_Chip_put := _
    F_Chip_put := F_Chip_put
    bd_Chip_put := b_Chip_put
    k_Chip_put := k_Chip_put
    a_Chip_wipe := f_Chip_wipe
    fd_Chip_wipe := _
    F_Chip_wipe := F_Chip_wipe
    bd_Chip_wipe := b_Chip_wipe
    k_Chip_wipe := k_Chip_wipe
    a_Chip_read := f_Chip_read
    fd_Chip_read := _
    F_Chip_read := F_Chip_read
    bd_Chip_read := b_Chip_read
    k_Chip_read := k_Chip_read
    a_Chip_is_dark := f_Chip_is_dark
    fd_Chip_is_dark := _
    F_Chip_is_dark := F_Chip_is_dark
    bd_Chip_is_dark := b_Chip_is_dark
    k_Chip_is_dark := k_Chip_is_dark
    a_Chip_cleared := f_Chip_cleared
    fd_Chip_cleared := _
    F_Chip_cleared := F_Chip_cleared
    bd_Chip_cleared := b_Chip_cleared
    k_Chip_cleared := k_Chip_cleared
    a_Chip_failed := f_Chip_failed
    fd_Chip_failed := _
    F_Chip_failed := F_Chip_failed
    bd_Chip_failed := b_Chip_failed
    k_Chip_failed := k_Chip_failed
    a_Chip_deeds := f_Chip_deeds
    fd_Chip_deeds := _
    F_Chip_deeds := F_Chip_deeds
    bd_Chip_deeds := b_Chip_deeds
    k_Chip_deeds := k_Chip_deeds
    a_Terms_init := f_Terms_init
    fd_Terms_init := _
    F_Terms_init := F_Terms_init
    k_Terms_init := k_Terms_init
    ds1_Terms_init := ds1_Terms_init, dv1_Terms_init := dv1_Terms_init, bd1_Terms_init := bd1_Terms_init
    a_Terms_closed := f_Terms_closed
    fd_Terms_closed := _
    F_Terms_closed := F_Terms_closed
    bd_Terms_closed := b_Terms_closed
    k_Terms_closed := k_Terms_closed
    a__law_cell_at := f__law_cell_at
    fd__law_cell_at := _
    F__law_cell_at := F__law_cell_at
    bd__law_cell_at := b__law_cell_at
    k__law_cell_at := k__law_cell_at
    g__law_cell_at := PySem.W.mg_of X G a__law_cell_at
    a__law_whole := f__law_whole
    fd__law_whole := _
    F__law_whole := F__law_whole
    bd__law_whole := b__law_whole
    k__law_whole := k__law_whole
    g__law_whole := PySem.W.mg_of X G a__law_whole
    a__law_numbers := f__law_numbers
    fd__law_numbers := _
    F__law_numbers := F__law_numbers
    bd__law_numbers := b__law_numbers
    k__law_numbers := k__law_numbers
    g__law_numbers := PySem.W.mg_of X G a__law_numbers
    a__law_same := f__law_same
    fd__law_same := _
    F__law_same := F__law_same
    bd__law_same := b__law_same
    k__law_same := k__law_same
    g__law_same := PySem.W.mg_of X G a__law_same
    a__law_done := f__law_done
    fd__law_done := _
    F__law_done := F__law_done
    bd__law_done := b__law_done
    k__law_done := k__law_done
    g__law_done := PySem.W.mg_of X G a__law_done
    a__law_wiped := f__law_wiped
    fd__law_wiped := _
    F__law_wiped := F__law_wiped
    bd__law_wiped := b__law_wiped
    k__law_wiped := k__law_wiped
    g__law_wiped := PySem.W.mg_of X G a__law_wiped
    a__law_good := f__law_good
    fd__law_good := _
    F__law_good := F__law_good
    bd__law_good := b__law_good
    k__law_good := k__law_good
    g__law_good := PySem.W.mg_of X G a__law_good
    a__law_free := f__law_free
    fd__law_free := _
    F__law_free := F__law_free
    bd__law_free := b__law_free
    k__law_free := k__law_free
    g__law_free := PySem.W.mg_of X G a__law_free
    a__law_part := f__law_part
    fd__law_part := _
    F__law_part := F__law_part
    bd__law_part := b__law_part
    k__law_part := k__law_part
    g__law_part := PySem.W.mg_of X G a__law_part
    a__law_spot := f__law_spot
    fd__law_spot := _
    F__law_spot := F__law_spot
    bd__law_spot := b__law_spot
    k__law_spot := k__law_spot
    g__law_spot := PySem.W.mg_of X G a__law_spot
    a__law_asks := f__law_asks
    fd__law_asks := _
    F__law_asks := F__law_asks
    bd__law_asks := b__law_asks
    k__law_asks := k__law_asks
    g__law_asks := PySem.W.mg_of X G a__law_asks
    a__law_set := f__law_set
    fd__law_set := _
    F__law_set := F__law_set
    bd__law_set := b__law_set
    k__law_set := k__law_set
    g__law_set := PySem.W.mg_of X G a__law_set
    a__law_unready := f__law_unready
    fd__law_unready := _
    F__law_unready := F__law_unready
    bd__law_unready := b__law_unready
    k__law_unready := k__law_unready
    g__law_unready := PySem.W.mg_of X G a__law_unready
    a__law_step := f__law_step
    fd__law_step := _
    F__law_step := F__law_step
    bd__law_step := b__law_step
    k__law_step := k__law_step
    g__law_step := PySem.W.mg_of X G a__law_step
    a__law_lies := f__law_lies
    fd__law_lies := _
    F__law_lies := F__law_lies
    bd__law_lies := b__law_lies
    k__law_lies := k__law_lies
    g__law_lies := PySem.W.mg_of X G a__law_lies
    a_law := fa
    fd_law := _
    F_law := F_law
    bd_law := b_law
    k_law := k_law
    C_Book := C_Book
    g_Book := PySem.W.mg_of X G aC_Book
    cl_Book := ⟨pg_Book, hd_Book, po_Book, sa_Book⟩
    na_Book_blocks := na_Book_blocks
    na_Book_pages := na_Book_pages
    na_Book_where := na_Book_where
    na_Book_names := na_Book_names
    na_Book_live := na_Book_live
    na_Book_filled := na_Book_filled
    na_Book_born := na_Book_born
    na_Book_stamp := na_Book_stamp
    mk_Book := ⟨mi_Book, at_Book_init, fn_Book_init, kc_Book⟩
    m_Book_mark := ⟨at_Book_mark, fn_Book_mark, k_Book_mark⟩
    m_Book_note := ⟨at_Book_note, fn_Book_note, k_Book_note⟩
    m_Book_forget := ⟨at_Book_forget, fn_Book_forget, k_Book_forget⟩
    m_Book_held := ⟨at_Book_held, fn_Book_held, k_Book_held⟩
    m_Book_tell := ⟨at_Book_tell, fn_Book_tell, k_Book_tell⟩
    C_Plain := C_Plain
    g_Plain := PySem.W.mg_of X G aC_Plain
    cl_Plain := ⟨pg_Plain, hd_Plain, po_Plain, sa_Plain⟩
    na_Plain_chip := na_Plain_chip
    na_Plain_terms := na_Plain_terms
    na_Plain_book := na_Plain_book
    mk_Plain := ⟨mi_Plain, at_Plain_init, fn_Plain_init, kc_Plain⟩
    m_Plain_good := ⟨at_Plain_good, fn_Plain_good, k_Plain_good⟩
    m_Plain_free := ⟨at_Plain_free, fn_Plain_free, k_Plain_free⟩
    m_Plain_part := ⟨at_Plain_part, fn_Plain_part, k_Plain_part⟩
    m_Plain_spot := ⟨at_Plain_spot, fn_Plain_spot, k_Plain_spot⟩
    m_Plain_reserve := ⟨at_Plain_reserve, fn_Plain_reserve, k_Plain_reserve⟩
    m_Plain_ready := ⟨at_Plain_ready, fn_Plain_ready, k_Plain_ready⟩
    m_Plain_make_ready := ⟨at_Plain_make_ready, fn_Plain_make_ready, k_Plain_make_ready⟩
    m_Plain_set_down := ⟨at_Plain_set_down, fn_Plain_set_down, k_Plain_set_down⟩
    m_Plain_lay := ⟨at_Plain_lay, fn_Plain_lay, k_Plain_lay⟩
    m_Plain_need_sheet := ⟨at_Plain_need_sheet, fn_Plain_need_sheet, k_Plain_need_sheet⟩
    m_Plain_write := ⟨at_Plain_write, fn_Plain_write, k_Plain_write⟩
    m_Plain_read := ⟨at_Plain_read, fn_Plain_read, k_Plain_read⟩
    m_Plain_held := ⟨at_Plain_held, fn_Plain_held, k_Plain_held⟩
    C_Chip := C_Chip
    g_Chip := PySem.W.mg_of X G aC_Chip
    cl_Chip := ⟨pg_Chip, hd_Chip, po_Chip, sa_Chip⟩
    na_Chip_blocks := na_Chip_blocks
    na_Chip_pages := na_Chip_pages
    na_Chip_most := na_Chip_most
    na_Chip_lasts := na_Chip_lasts
    na_Chip_stuff := na_Chip_stuff
    na_Chip_tried := na_Chip_tried
    na_Chip_clearings := na_Chip_clearings
    na_Chip_broken := na_Chip_broken
    na_Chip_left := na_Chip_left
    na_Chip_log := na_Chip_log
    mk_Chip := ⟨mi_Chip, at_Chip_init, fn_Chip_init, kc_Chip⟩
    m_Chip_need_page := ⟨at_Chip_need_page, fn_Chip_need_page, k_Chip_need_page⟩
    m_Chip_need_block := ⟨at_Chip_need_block, fn_Chip_need_block, k_Chip_need_block⟩
    m_Chip_need_power := ⟨at_Chip_need_power, fn_Chip_need_power, k_Chip_need_power⟩
    m_Chip_need_good := ⟨at_Chip_need_good, fn_Chip_need_good, k_Chip_need_good⟩
    m_Chip_goes_well := ⟨at_Chip_goes_well, fn_Chip_goes_well, k_Chip_goes_well⟩
    m_Chip_put := ⟨at_Chip_put, fn_Chip_put, k_Chip_put⟩
    m_Chip_wipe := ⟨at_Chip_wipe, fn_Chip_wipe, k_Chip_wipe⟩
    m_Chip_read := ⟨at_Chip_read, fn_Chip_read, k_Chip_read⟩
    m_Chip_is_dark := ⟨at_Chip_is_dark, fn_Chip_is_dark, k_Chip_is_dark⟩
    m_Chip_cleared := ⟨at_Chip_cleared, fn_Chip_cleared, k_Chip_cleared⟩
    m_Chip_failed := ⟨at_Chip_failed, fn_Chip_failed, k_Chip_failed⟩
    m_Chip_deeds := ⟨at_Chip_deeds, fn_Chip_deeds, k_Chip_deeds⟩
    C_Terms := C_Terms
    g_Terms := PySem.W.mg_of X G aC_Terms
    cl_Terms := ⟨pg_Terms, hd_Terms, po_Terms, sa_Terms⟩
    na_Terms_blocks := na_Terms_blocks
    na_Terms_pages := na_Terms_pages
    na_Terms_sheets := na_Terms_sheets
    na_Terms_share := na_Terms_share
    na_Terms_ill := na_Terms_ill
    na_Terms_spread := na_Terms_spread
    mk_Terms := ⟨mi_Terms, at_Terms_init, fn_Terms_init, kc_Terms⟩
    m_Terms_closed := ⟨at_Terms_closed, fn_Terms_closed, k_Terms_closed⟩
    C_WornError := C_WornError
    g_WornError := PySem.W.mg_of X G aC_WornError
    xc_WornError := ⟨xq_WornError, xk_WornError, xr_WornError, xt_WornError⟩
    C_NoChip := C_NoChip
    g_NoChip := PySem.W.mg_of X G aC_NoChip
    xc_NoChip := ⟨xq_NoChip, xk_NoChip, xr_NoChip, xt_NoChip⟩
    C_NoPlace := C_NoPlace
    g_NoPlace := PySem.W.mg_of X G aC_NoPlace
    xc_NoPlace := ⟨xq_NoPlace, xk_NoPlace, xr_NoPlace, xt_NoPlace⟩
    C_PowerGone := C_PowerGone
    g_PowerGone := PySem.W.mg_of X G aC_PowerGone
    xc_PowerGone := ⟨xq_PowerGone, xk_PowerGone, xr_PowerGone, xt_PowerGone⟩
    C_BlockFailed := C_BlockFailed
    g_BlockFailed := PySem.W.mg_of X G aC_BlockFailed
    xi_BlockFailed := ⟨xo_BlockFailed, xi_BlockFailed, xt_BlockFailed, xfB_ok xf_BlockFailed⟩
    nx_BlockFailed_block := nx_BlockFailed_block
    C_NotClear := C_NotClear
    g_NotClear := PySem.W.mg_of X G aC_NotClear
    xi_NotClear := ⟨xo_NotClear, xi_NotClear, xt_NotClear, xfB_ok xf_NotClear⟩
    nx_NotClear_page := nx_NotClear_page
    C_NoTerms := C_NoTerms
    g_NoTerms := PySem.W.mg_of X G aC_NoTerms
    xc_NoTerms := ⟨xq_NoTerms, xk_NoTerms, xr_NoTerms, xt_NoTerms⟩
    C_NoSheet := C_NoSheet
    g_NoSheet := PySem.W.mg_of X G aC_NoSheet
    xc_NoSheet := ⟨xq_NoSheet, xk_NoSheet, xr_NoSheet, xt_NoSheet⟩
    C_NoValue := C_NoValue
    g_NoValue := PySem.W.mg_of X G aC_NoValue
    xc_NoValue := ⟨xq_NoValue, xk_NoValue, xr_NoValue, xt_NoValue⟩
    C_Full := C_Full
    g_Full := PySem.W.mg_of X G aC_Full
    xc_Full := ⟨xq_Full, xk_Full, xr_Full, xt_Full⟩
    C_NoRoom := C_NoRoom
    g_NoRoom := PySem.W.mg_of X G aC_NoRoom
    xc_NoRoom := ⟨xq_NoRoom, xk_NoRoom, xr_NoRoom, xt_NoRoom⟩
    wi_WornError := ⟨wa_WornError, wr_WornError, wf_WornError⟩
    em_NoTerms_BlockFailed := em_NoTerms_BlockFailed
    em_NoTerms_NoRoom := em_NoTerms_NoRoom
    em_NoRoom_BlockFailed := em_NoRoom_BlockFailed
    em_NoRoom_NoRoom := em_NoRoom_NoRoom
    em_NoSheet_BlockFailed := em_NoSheet_BlockFailed
    em_NoSheet_NoRoom := em_NoSheet_NoRoom
    em_NoValue_BlockFailed := em_NoValue_BlockFailed
    em_NoValue_NoRoom := em_NoValue_NoRoom
    em_Full_BlockFailed := em_Full_BlockFailed
    em_Full_NoRoom := em_Full_NoRoom
    em_NoChip_BlockFailed := em_NoChip_BlockFailed
    em_NoChip_NoRoom := em_NoChip_NoRoom
    em_NoPlace_BlockFailed := em_NoPlace_BlockFailed
    em_NoPlace_NoRoom := em_NoPlace_NoRoom
    em_PowerGone_BlockFailed := em_PowerGone_BlockFailed
    em_PowerGone_NoRoom := em_PowerGone_NoRoom
    em_BlockFailed_BlockFailed := em_BlockFailed_BlockFailed
    em_BlockFailed_NoRoom := em_BlockFailed_NoRoom
    em_NotClear_BlockFailed := em_NotClear_BlockFailed
    em_NotClear_NoRoom := em_NotClear_NoRoom
    b_len := PySem.W.mg_none_of X G z_len
    b_isinstance := PySem.W.mg_none_of X G z_isinstance
    b_sorted := PySem.W.mg_none_of X G z_sorted
    b_int := PySem.W.mg_none_of X G z_int
    b_str := PySem.W.mg_none_of X G z_str
    b_list := PySem.W.mg_none_of X G z_list
    b_tuple := PySem.W.mg_none_of X G z_tuple
    b_bool := PySem.W.mg_none_of X G z_bool
    b_range := PySem.W.mg_none_of X G z_range
    b_ValueError := PySem.W.mg_none_of X G z_ValueError
    u_ROLL := _
    g_ROLL := PySem.W.mg_of X G v_ROLL
    r_ROLL := ⟨_, rfl⟩
    u_MANY := _
    g_MANY := PySem.W.mg_of X G v_MANY
    r_MANY := ⟨_, rfl⟩
    u_MOST := _
    g_MOST := PySem.W.mg_of X G v_MOST
    r_MOST := ⟨_, rfl⟩ }
  exact ⟨T.fd_law, fun s v => .of_eq rfl, fun base _ _ => ok_law T⟩
theorem walk {l : PySem.W.OpenLaw} {q : Program} {loose : List Str} {XP : (Str → Option Value) → Heap → Prop} {YP : World → Heap → Prop} {d : DefRec} {K : Params → PySem.W.Frag} (hn : l.most = some 63) (hdf : d.params.defaults = [])
    (hY : ∀ (w : World) (h : Heap), YP w h → (K w.params).In h)
    (F : ∀ (w : World) (mg : Str → Option Value) (fa : Addr) (h : Heap), (K w.params).In h → h.Ns mainGlobals mg → mg d.name = some (.ref fa) →
      ∃ fd : FuncData, (∀ (s : Shared) (u : Value), BindsTo s fd ⟨[u], []⟩ [("_law_script", u)]) ∧ ∀ base : Heap, (K w.params).In base → base.Ns mainGlobals mg → FnOk l.prog w (K w.params) mg base (L2.CX l.prog w) 12 fa fd ["_law_script"] (spLaw (K w.params))) :
    PySem.W.WalkO q loose XP YP l.row.toRowW d [] (fun f vs => PySem.call f vs) :=
  L2.walk_of (n := 63) (k := 12) (x := "_law_script") (CX := fun w => L2.CX l.prog w) (sp := fun w => spLaw (K w.params)) hn (by decide) hdf ⟨rfl, by decide, by decide⟩ hY F (fun _ _ a ns hl _ hS => ⟨a, ns, rfl, hS, hl, fun _ => rfl⟩) (fun _ _ _ _ _ z => by
    obtain ⟨_, _, _, _, _, _, _, _, _, _, _, _, z⟩ := z
    exact z.elim)
end My
open PySem PySem.W PyProof.Rows
set_option maxRecDepth 100000 in
set_option maxHeartbeats 0 in
set_option pp.maxSteps 300 in
theorem PySem.Challenge.cw_wornpages_k14_page_by_page_holds : PySem.Challenge.rw_wornpages_k14_page_by_page.Holds := by
  w_on; o_law; k_head; (case hw => w_witness2)
  k_fill
  refine My.walk (l := PySem.Challenge.rw_wornpages_k14_page_by_page) rfl rfl (fun w h Y => PySem.W.kIn_of Y) ?F
  case F =>
    intro w mg fa h KX G hmg
    refine' My.all_mk KX G hmg ?a_mark_of ?l_mark_of ?c_mark_of ?k_mark_of ?l_Book_init ?c_Book_init ?k_Book_init ?l_Book_mark ?c_Book_mark ?k_Book_mark ?l_Book_note ?c_Book_note ?k_Book_note ?l_Book_forget ?c_Book_forget ?k_Book_forget ?l_Book_held ?c_Book_held ?k_Book_held ?l_Book_tell ?c_Book_tell ?k_Book_tell ?l_BlockFailed_init ?c_BlockFailed_init ?k_BlockFailed_init ?l_NotClear_init ?c_NotClear_init ?k_NotClear_init ?a_is_whole ?l_is_whole ?c_is_whole ?k_is_whole ?a_is_within ?l_is_within ?c_is_within ?k_is_within ?l_Plain_init ?c_Plain_init ?k_Plain_init ?l_Plain_good ?c_Plain_good ?k_Plain_good ?l_Plain_free ?c_Plain_free ?k_Plain_free ?l_Plain_part ?c_Plain_part ?k_Plain_part ?l_Plain_spot ?c_Plain_spot ?k_Plain_spot ?l_Plain_reserve ?c_Plain_reserve ?k_Plain_reserve ?l_Plain_ready ?c_Plain_ready ?k_Plain_ready ?l_Plain_make_ready ?c_Plain_make_ready ?k_Plain_make_ready ?l_Plain_set_down ?c_Plain_set_down ?k_Plain_set_down ?l_Plain_lay ?c_Plain_lay ?k_Plain_lay ?l_Plain_need_sheet ?c_Plain_need_sheet ?k_Plain_need_sheet ?l_Plain_write ?c_Plain_write ?k_Plain_write ?l_Plain_read ?c_Plain_read ?k_Plain_read ?l_Plain_held ?c_Plain_held ?k_Plain_held ?a_endurance ?l_endurance ?c_endurance ?k_endurance ?l_Chip_init ?c_Chip_init ?k_Chip_init ?df_Chip_init ?l_Chip_need_page ?c_Chip_need_page ?k_Chip_need_page ?l_Chip_need_block ?c_Chip_need_block ?k_Chip_need_block ?l_Chip_need_power ?c_Chip_need_power ?k_Chip_need_power ?l_Chip_need_good ?c_Chip_need_good ?k_Chip_need_good ?l_Chip_goes_well ?c_Chip_goes_well ?k_Chip_goes_well ?l_Chip_put ?c_Chip_put ?k_Chip_put ?l_Chip_wipe ?c_Chip_wipe ?k_Chip_wipe ?l_Chip_read ?c_Chip_read ?k_Chip_read ?l_Chip_is_dark ?c_Chip_is_dark ?k_Chip_is_dark ?l_Chip_cleared ?c_Chip_cleared ?k_Chip_cleared ?l_Chip_failed ?c_Chip_failed ?k_Chip_failed ?l_Chip_deeds ?c_Chip_deeds ?k_Chip_deeds ?l_Terms_init ?c_Terms_init ?k_Terms_init ?df_Terms_init ?l_Terms_closed ?c_Terms_closed ?k_Terms_closed ?a__law_cell_at ?l__law_cell_at ?c__law_cell_at ?k__law_cell_at ?a__law_whole ?l__law_whole ?c__law_whole ?k__law_whole ?a__law_numbers ?l__law_numbers ?c__law_numbers ?k__law_numbers ?a__law_same ?l__law_same ?c__law_same ?k__law_same ?a__law_done ?l__law_done ?c__law_done ?k__law_done ?a__law_wiped ?l__law_wiped ?c__law_wiped ?k__law_wiped ?a__law_good ?l__law_good ?c__law_good ?k__law_good ?a__law_free ?l__law_free ?c__law_free ?k__law_free ?a__law_part ?l__law_part ?c__law_part ?k__law_part ?a__law_spot ?l__law_spot ?c__law_spot ?k__law_spot ?a__law_asks ?l__law_asks ?c__law_asks ?k__law_asks ?a__law_set ?l__law_set ?c__law_set ?k__law_set ?a__law_unready ?l__law_unready ?c__law_unready ?k__law_unready ?a__law_step ?l__law_step ?c__law_step ?k__law_step ?a__law_lies ?l__law_lies ?c__law_lies ?k__law_lies ?a_law ?l_law ?c_law ?k_law ?aC_Book ?pg_Book ?hd_Book ?po_Book ?sa_Book ?na_Book_blocks ?na_Book_pages ?na_Book_where ?na_Book_names ?na_Book_live ?na_Book_filled ?na_Book_born ?na_Book_stamp ?at_Book_init ?fn_Book_init ?mi_Book ?kc_Book ?at_Book_mark ?fn_Book_mark ?at_Book_note ?fn_Book_note ?at_Book_forget ?fn_Book_forget ?at_Book_held ?fn_Book_held ?at_Book_tell ?fn_Book_tell ?aC_Plain ?pg_Plain ?hd_Plain ?po_Plain ?sa_Plain ?na_Plain_chip ?na_Plain_terms ?na_Plain_book ?at_Plain_init ?fn_Plain_init ?mi_Plain ?kc_Plain ?at_Plain_good ?fn_Plain_good ?at_Plain_free ?fn_Plain_free ?at_Plain_part ?fn_Plain_part ?at_Plain_spot ?fn_Plain_spot ?at_Plain_reserve ?fn_Plain_reserve ?at_Plain_ready ?fn_Plain_ready ?at_Plain_make_ready ?fn_Plain_make_ready ?at_Plain_set_down ?fn_Plain_set_down ?at_Plain_lay ?fn_Plain_lay ?at_Plain_need_sheet ?fn_Plain_need_sheet ?at_Plain_write ?fn_Plain_write ?at_Plain_read ?fn_Plain_read ?at_Plain_held ?fn_Plain_held ?aC_Chip ?pg_Chip ?hd_Chip ?po_Chip ?sa_Chip ?na_Chip_blocks ?na_Chip_pages ?na_Chip_most ?na_Chip_lasts ?na_Chip_stuff ?na_Chip_tried ?na_Chip_clearings ?na_Chip_broken ?na_Chip_left ?na_Chip_log ?at_Chip_init ?fn_Chip_init ?mi_Chip ?kc_Chip ?at_Chip_need_page ?fn_Chip_need_page ?at_Chip_need_block ?fn_Chip_need_block ?at_Chip_need_power ?fn_Chip_need_power ?at_Chip_need_good ?fn_Chip_need_good ?at_Chip_goes_well ?fn_Chip_goes_well ?at_Chip_put ?fn_Chip_put ?at_Chip_wipe ?fn_Chip_wipe ?at_Chip_read ?fn_Chip_read ?at_Chip_is_dark ?fn_Chip_is_dark ?at_Chip_cleared ?fn_Chip_cleared ?at_Chip_failed ?fn_Chip_failed ?at_Chip_deeds ?fn_Chip_deeds ?aC_Terms ?pg_Terms ?hd_Terms ?po_Terms ?sa_Terms ?na_Terms_blocks ?na_Terms_pages ?na_Terms_sheets ?na_Terms_share ?na_Terms_ill ?na_Terms_spread ?at_Terms_init ?fn_Terms_init ?mi_Terms ?kc_Terms ?at_Terms_closed ?fn_Terms_closed ?aC_WornError ?xq_WornError ?xk_WornError ?xr_WornError ?xt_WornError ?aC_NoChip ?xq_NoChip ?xk_NoChip ?xr_NoChip ?xt_NoChip ?aC_NoPlace ?xq_NoPlace ?xk_NoPlace ?xr_NoPlace ?xt_NoPlace ?aC_PowerGone ?xq_PowerGone ?xk_PowerGone ?xr_PowerGone ?xt_PowerGone ?aC_BlockFailed ?xl_BlockFailed ?rv_BlockFailed ?xs_BlockFailed ?xr_BlockFailed ?xy_BlockFailed ?xk_BlockFailed ?xi_BlockFailed ?xt_BlockFailed ?xf_BlockFailed ?nx_BlockFailed_block ?aC_NotClear ?xl_NotClear ?rv_NotClear ?xs_NotClear ?xr_NotClear ?xy_NotClear ?xk_NotClear ?xi_NotClear ?xt_NotClear ?xf_NotClear ?nx_NotClear_page ?aC_NoTerms ?xq_NoTerms ?xk_NoTerms ?xr_NoTerms ?xt_NoTerms ?aC_NoSheet ?xq_NoSheet ?xk_NoSheet ?xr_NoSheet ?xt_NoSheet ?aC_NoValue ?xq_NoValue ?xk_NoValue ?xr_NoValue ?xt_NoValue ?aC_Full ?xq_Full ?xk_Full ?xr_Full ?xt_Full ?aC_NoRoom ?xq_NoRoom ?xk_NoRoom ?xr_NoRoom ?xt_NoRoom ?wa_WornError ?wr_WornError ?wf_WornError ?em_NoTerms_BlockFailed ?em_NoTerms_NoRoom ?em_NoRoom_BlockFailed ?em_NoRoom_NoRoom ?em_NoSheet_BlockFailed ?em_NoSheet_NoRoom ?em_NoValue_BlockFailed ?em_NoValue_NoRoom ?em_Full_BlockFailed ?em_Full_NoRoom ?em_NoChip_BlockFailed ?em_NoChip_NoRoom ?em_NoPlace_BlockFailed ?em_NoPlace_NoRoom ?em_PowerGone_BlockFailed ?em_PowerGone_NoRoom ?em_BlockFailed_BlockFailed ?em_BlockFailed_NoRoom ?em_NotClear_BlockFailed ?em_NotClear_NoRoom ?z_len ?z_isinstance ?z_sorted ?z_int ?z_str ?z_list ?z_tuple ?z_bool ?z_range ?z_ValueError ?v_ROLL ?v_MANY ?v_MOST
    (case aC_Book => k_is)
    (case aC_Plain => k_is)
    (case aC_Chip => k_is)
    (case aC_Terms => k_is)
    (case aC_WornError => k_is)
    (case aC_NoChip => k_is)
    (case aC_NoPlace => k_is)
    (case aC_PowerGone => k_is)
    (case aC_BlockFailed => k_is)
    (case aC_NotClear => k_is)
    (case aC_NoTerms => k_is)
    (case aC_NoSheet => k_is)
    (case aC_NoValue => k_is)
    (case aC_Full => k_is)
    (case aC_NoRoom => k_is)
    (case at_Book_init => k_is)
    (case at_Book_mark => k_is)
    (case at_Book_note => k_is)
    (case at_Book_forget => k_is)
    (case at_Book_held => k_is)
    (case at_Book_tell => k_is)
    (case at_Plain_init => k_is)
    (case at_Plain_good => k_is)
    (case at_Plain_free => k_is)
    (case at_Plain_part => k_is)
    (case at_Plain_spot => k_is)
    (case at_Plain_reserve => k_is)
    (case at_Plain_ready => k_is)
    (case at_Plain_make_ready => k_is)
    (case at_Plain_set_down => k_is)
    (case at_Plain_lay => k_is)
    (case at_Plain_need_sheet => k_is)
    (case at_Plain_write => k_is)
    (case at_Plain_read => k_is)
    (case at_Plain_held => k_is)
    (case at_Chip_init => k_is)
    (case at_Chip_need_page => k_is)
    (case at_Chip_need_block => k_is)
    (case at_Chip_need_power => k_is)
    (case at_Chip_need_good => k_is)
    (case at_Chip_goes_well => k_is)
    (case at_Chip_put => k_is)
    (case at_Chip_wipe => k_is)
    (case at_Chip_read => k_is)
    (case at_Chip_is_dark => k_is)
    (case at_Chip_cleared => k_is)
    (case at_Chip_failed => k_is)
    (case at_Chip_deeds => k_is)
    (case at_Terms_init => k_is)
    (case at_Terms_closed => k_is)
    (case xi_BlockFailed => k_is)
    (case xi_NotClear => k_is)
    (case a_mark_of => k_is)
    (case l_mark_of => k_is)
    (case c_mark_of => k_is)
    (case k_mark_of => k_is)
    (case l_Book_init => k_is)
    (case c_Book_init => k_is)
    (case k_Book_init => k_is)
    (case l_Book_mark => k_is)
    (case c_Book_mark => k_is)
    (case k_Book_mark => k_is)
    (case l_Book_note => k_is)
    (case c_Book_note => k_is)
    (case k_Book_note => k_is)
    (case l_Book_forget => k_is)
    (case c_Book_forget => k_is)
    (case k_Book_forget => k_is)
    (case l_Book_held => k_is)
    (case c_Book_held => k_is)
    (case k_Book_held => k_is)
    (case l_Book_tell => k_is)
    (case c_Book_tell => k_is)
    (case k_Book_tell => k_is)
    (case l_BlockFailed_init => k_is)
    (case c_BlockFailed_init => k_is)
    (case k_BlockFailed_init => k_is)
    (case l_NotClear_init => k_is)
    (case c_NotClear_init => k_is)
    (case k_NotClear_init => k_is)
    (case a_is_whole => k_is)
    (case l_is_whole => k_is)
    (case c_is_whole => k_is)
    (case k_is_whole => k_is)
    (case a_is_within => k_is)
    (case l_is_within => k_is)
    (case c_is_within => k_is)
    (case k_is_within => k_is)
    (case l_Plain_init => k_is)
    (case c_Plain_init => k_is)
    (case k_Plain_init => k_is)
    (case l_Plain_good => k_is)
    (case c_Plain_good => k_is)
    (case k_Plain_good => k_is)
    (case l_Plain_free => k_is)
    (case c_Plain_free => k_is)
    (case k_Plain_free => k_is)
    (case l_Plain_part => k_is)
    (case c_Plain_part => k_is)
    (case k_Plain_part => k_is)
    (case l_Plain_spot => k_is)
    (case c_Plain_spot => k_is)
    (case k_Plain_spot => k_is)
    (case l_Plain_reserve => k_is)
    (case c_Plain_reserve => k_is)
    (case k_Plain_reserve => k_is)
    (case l_Plain_ready => k_is)
    (case c_Plain_ready => k_is)
    (case k_Plain_ready => k_is)
    (case l_Plain_make_ready => k_is)
    (case c_Plain_make_ready => k_is)
    (case k_Plain_make_ready => k_is)
    (case l_Plain_set_down => k_is)
    (case c_Plain_set_down => k_is)
    (case k_Plain_set_down => k_is)
    (case l_Plain_lay => k_is)
    (case c_Plain_lay => k_is)
    (case k_Plain_lay => k_is)
    (case l_Plain_need_sheet => k_is)
    (case c_Plain_need_sheet => k_is)
    (case k_Plain_need_sheet => k_is)
    (case l_Plain_write => k_is)
    (case c_Plain_write => k_is)
    (case k_Plain_write => k_is)
    (case l_Plain_read => k_is)
    (case c_Plain_read => k_is)
    (case k_Plain_read => k_is)
    (case l_Plain_held => k_is)
    (case c_Plain_held => k_is)
    (case k_Plain_held => k_is)
    (case a_endurance => k_is)
    (case l_endurance => k_is)
    (case c_endurance => k_is)
    (case k_endurance => k_is)
    (case l_Chip_init => k_is)
    (case c_Chip_init => k_is)
    (case k_Chip_init => k_is)
    (case df_Chip_init => kernel_rfl)
    (case l_Chip_need_page => k_is)
    (case c_Chip_need_page => k_is)
    (case k_Chip_need_page => k_is)
    (case l_Chip_need_block => k_is)
    (case c_Chip_need_block => k_is)
    (case k_Chip_need_block => k_is)
    (case l_Chip_need_power => k_is)
    (case c_Chip_need_power => k_is)
    (case k_Chip_need_power => k_is)
    (case l_Chip_need_good => k_is)
    (case c_Chip_need_good => k_is)
    (case k_Chip_need_good => k_is)
    (case l_Chip_goes_well => k_is)
    (case c_Chip_goes_well => k_is)
    (case k_Chip_goes_well => k_is)
    (case l_Chip_put => k_is)
    (case c_Chip_put => k_is)
    (case k_Chip_put => k_is)
    (case l_Chip_wipe => k_is)
    (case c_Chip_wipe => k_is)
    (case k_Chip_wipe => k_is)
    (case l_Chip_read => k_is)
    (case c_Chip_read => k_is)
    (case k_Chip_read => k_is)
    (case l_Chip_is_dark => k_is)
    (case c_Chip_is_dark => k_is)
    (case k_Chip_is_dark => k_is)
    (case l_Chip_cleared => k_is)
    (case c_Chip_cleared => k_is)
    (case k_Chip_cleared => k_is)
    (case l_Chip_failed => k_is)
    (case c_Chip_failed => k_is)
    (case k_Chip_failed => k_is)
    (case l_Chip_deeds => k_is)
    (case c_Chip_deeds => k_is)
    (case k_Chip_deeds => k_is)
    (case l_Terms_init => k_is)
    (case c_Terms_init => k_is)
    (case k_Terms_init => k_is)
    (case df_Terms_init => kernel_rfl)
    (case l_Terms_closed => k_is)
    (case c_Terms_closed => k_is)
    (case k_Terms_closed => k_is)
    (case a__law_cell_at => k_is)
    (case l__law_cell_at => k_is)
    (case c__law_cell_at => k_is)
    (case k__law_cell_at => k_is)
    (case a__law_whole => k_is)
    (case l__law_whole => k_is)
    (case c__law_whole => k_is)
    (case k__law_whole => k_is)
    (case a__law_numbers => k_is)
    (case l__law_numbers => k_is)
    (case c__law_numbers => k_is)
    (case k__law_numbers => k_is)
    (case a__law_same => k_is)
    (case l__law_same => k_is)
    (case c__law_same => k_is)
    (case k__law_same => k_is)
    (case a__law_done => k_is)
    (case l__law_done => k_is)
    (case c__law_done => k_is)
    (case k__law_done => k_is)
    (case a__law_wiped => k_is)
    (case l__law_wiped => k_is)
    (case c__law_wiped => k_is)
    (case k__law_wiped => k_is)
    (case a__law_good => k_is)
    (case l__law_good => k_is)
    (case c__law_good => k_is)
    (case k__law_good => k_is)
    (case a__law_free => k_is)
    (case l__law_free => k_is)
    (case c__law_free => k_is)
    (case k__law_free => k_is)
    (case a__law_part => k_is)
    (case l__law_part => k_is)
    (case c__law_part => k_is)
    (case k__law_part => k_is)
    (case a__law_spot => k_is)
    (case l__law_spot => k_is)
    (case c__law_spot => k_is)
    (case k__law_spot => k_is)
    (case a__law_asks => k_is)
    (case l__law_asks => k_is)
    (case c__law_asks => k_is)
    (case k__law_asks => k_is)
    (case a__law_set => k_is)
    (case l__law_set => k_is)
    (case c__law_set => k_is)
    (case k__law_set => k_is)
    (case a__law_unready => k_is)
    (case l__law_unready => k_is)
    (case c__law_unready => k_is)
    (case k__law_unready => k_is)
    (case a__law_step => k_is)
    (case l__law_step => k_is)
    (case c__law_step => k_is)
    (case k__law_step => k_is)
    (case a__law_lies => k_is)
    (case l__law_lies => k_is)
    (case c__law_lies => k_is)
    (case k__law_lies => k_is)
    (case a_law => k_is)
    (case l_law => k_is)
    (case c_law => k_is)
    (case k_law => k_is)
    (case pg_Book => k_is)
    (case hd_Book => k_is)
    (case po_Book => k_is)
    (case sa_Book => k_is)
    (case na_Book_blocks => k_is)
    (case na_Book_pages => k_is)
    (case na_Book_where => k_is)
    (case na_Book_names => k_is)
    (case na_Book_live => k_is)
    (case na_Book_filled => k_is)
    (case na_Book_born => k_is)
    (case na_Book_stamp => k_is)
    (case fn_Book_init => k_is)
    (case mi_Book => k_is)
    (case kc_Book => k_is)
    (case fn_Book_mark => k_is)
    (case fn_Book_note => k_is)
    (case fn_Book_forget => k_is)
    (case fn_Book_held => k_is)
    (case fn_Book_tell => k_is)
    (case pg_Plain => k_is)
    (case hd_Plain => k_is)
    (case po_Plain => k_is)
    (case sa_Plain => k_is)
    (case na_Plain_chip => k_is)
    (case na_Plain_terms => k_is)
    (case na_Plain_book => k_is)
    (case fn_Plain_init => k_is)
    (case mi_Plain => k_is)
    (case kc_Plain => k_is)
    (case fn_Plain_good => k_is)
    (case fn_Plain_free => k_is)
    (case fn_Plain_part => k_is)
    (case fn_Plain_spot => k_is)
    (case fn_Plain_reserve => k_is)
    (case fn_Plain_ready => k_is)
    (case fn_Plain_make_ready => k_is)
    (case fn_Plain_set_down => k_is)
    (case fn_Plain_lay => k_is)
    (case fn_Plain_need_sheet => k_is)
    (case fn_Plain_write => k_is)
    (case fn_Plain_read => k_is)
    (case fn_Plain_held => k_is)
    (case pg_Chip => k_is)
    (case hd_Chip => k_is)
    (case po_Chip => k_is)
    (case sa_Chip => k_is)
    (case na_Chip_blocks => k_is)
    (case na_Chip_pages => k_is)
    (case na_Chip_most => k_is)
    (case na_Chip_lasts => k_is)
    (case na_Chip_stuff => k_is)
    (case na_Chip_tried => k_is)
    (case na_Chip_clearings => k_is)
    (case na_Chip_broken => k_is)
    (case na_Chip_left => k_is)
    (case na_Chip_log => k_is)
    (case fn_Chip_init => k_is)
    (case mi_Chip => k_is)
    (case kc_Chip => k_is)
    (case fn_Chip_need_page => k_is)
    (case fn_Chip_need_block => k_is)
    (case fn_Chip_need_power => k_is)
    (case fn_Chip_need_good => k_is)
    (case fn_Chip_goes_well => k_is)
    (case fn_Chip_put => k_is)
    (case fn_Chip_wipe => k_is)
    (case fn_Chip_read => k_is)
    (case fn_Chip_is_dark => k_is)
    (case fn_Chip_cleared => k_is)
    (case fn_Chip_failed => k_is)
    (case fn_Chip_deeds => k_is)
    (case pg_Terms => k_is)
    (case hd_Terms => k_is)
    (case po_Terms => k_is)
    (case sa_Terms => k_is)
    (case na_Terms_blocks => k_is)
    (case na_Terms_pages => k_is)
    (case na_Terms_sheets => k_is)
    (case na_Terms_share => k_is)
    (case na_Terms_ill => k_is)
    (case na_Terms_spread => k_is)
    (case fn_Terms_init => k_is)
    (case mi_Terms => k_is)
    (case kc_Terms => k_is)
    (case fn_Terms_closed => k_is)
    (case xq_WornError => k_exc)
    (case xk_WornError => k_is)
    (case xr_WornError => k_is)
    (case xt_WornError => k_is)
    (case xq_NoChip => k_exc)
    (case xk_NoChip => k_is)
    (case xr_NoChip => k_is)
    (case xt_NoChip => k_is)
    (case xq_NoPlace => k_exc)
    (case xk_NoPlace => k_is)
    (case xr_NoPlace => k_is)
    (case xt_NoPlace => k_is)
    (case xq_PowerGone => k_exc)
    (case xk_PowerGone => k_is)
    (case xr_PowerGone => k_is)
    (case xt_PowerGone => k_is)
    (case xl_BlockFailed => k_is)
    (case rv_BlockFailed => kernel_rfl)
    (case xs_BlockFailed => k_is)
    (case xr_BlockFailed => k_is)
    (case xy_BlockFailed => k_is)
    (case xk_BlockFailed => k_is)
    (case xt_BlockFailed => k_is)
    (case xf_BlockFailed => kernel_rfl)
    (case nx_BlockFailed_block => k_is)
    (case xl_NotClear => k_is)
    (case rv_NotClear => kernel_rfl)
    (case xs_NotClear => k_is)
    (case xr_NotClear => k_is)
    (case xy_NotClear => k_is)
    (case xk_NotClear => k_is)
    (case xt_NotClear => k_is)
    (case xf_NotClear => kernel_rfl)
    (case nx_NotClear_page => k_is)
    (case xq_NoTerms => k_exc)
    (case xk_NoTerms => k_is)
    (case xr_NoTerms => k_is)
    (case xt_NoTerms => k_is)
    (case xq_NoSheet => k_exc)
    (case xk_NoSheet => k_is)
    (case xr_NoSheet => k_is)
    (case xt_NoSheet => k_is)
    (case xq_NoValue => k_exc)
    (case xk_NoValue => k_is)
    (case xr_NoValue => k_is)
    (case xt_NoValue => k_is)
    (case xq_Full => k_exc)
    (case xk_Full => k_is)
    (case xr_Full => k_is)
    (case xt_Full => k_is)
    (case xq_NoRoom => k_exc)
    (case xk_NoRoom => k_is)
    (case xr_NoRoom => k_is)
    (case xt_NoRoom => k_is)
    (case wa_WornError => k_is)
    (case wr_WornError => k_is)
    (case wf_WornError => k_is)
    (case em_NoTerms_BlockFailed => kernel_rfl)
    (case em_NoTerms_NoRoom => kernel_rfl)
    (case em_NoRoom_BlockFailed => kernel_rfl)
    (case em_NoRoom_NoRoom => kernel_rfl)
    (case em_NoSheet_BlockFailed => kernel_rfl)
    (case em_NoSheet_NoRoom => kernel_rfl)
    (case em_NoValue_BlockFailed => kernel_rfl)
    (case em_NoValue_NoRoom => kernel_rfl)
    (case em_Full_BlockFailed => kernel_rfl)
    (case em_Full_NoRoom => kernel_rfl)
    (case em_NoChip_BlockFailed => kernel_rfl)
    (case em_NoChip_NoRoom => kernel_rfl)
    (case em_NoPlace_BlockFailed => kernel_rfl)
    (case em_NoPlace_NoRoom => kernel_rfl)
    (case em_PowerGone_BlockFailed => kernel_rfl)
    (case em_PowerGone_NoRoom => kernel_rfl)
    (case em_BlockFailed_BlockFailed => kernel_rfl)
    (case em_BlockFailed_NoRoom => kernel_rfl)
    (case em_NotClear_BlockFailed => kernel_rfl)
    (case em_NotClear_NoRoom => kernel_rfl)
    (case z_len => k_is)
    (case z_isinstance => k_is)
    (case z_sorted => k_is)
    (case z_int => k_is)
    (case z_str => k_is)
    (case z_list => k_is)
    (case z_tuple => k_is)
    (case z_bool => k_is)
    (case z_range => k_is)
    (case z_ValueError => k_is)
    (case v_ROLL => k_is)
    (case v_MANY => k_is)
    (case v_MOST => k_is)
#print axioms PySem.Challenge.cw_wornpages_k14_page_by_page_holds
